import PyProof.Rows.All
import Wide.All
import OpenK.AllK
import Wide.FinOn
import HandS.ForMost
import HandS.ForExc
import HandS.Flow
import HandS.IsInst
import HandS.Wide
import HandS.Walk
import HandS.ExcIs
import HandS.TryElse
import HandS.TryMany
import HandS.HotCalls
import HandS.SuiteRaise
import HandS.TupAny
import HandS.Small
import HandS.SetKeys
import HandS.More
import HandS.ExcValue
import HandS.ReplaceLit
import HandS.ReplaceList
import PySem.Challenge.RW_forestread_k81_rules_read
set_option Elab.async false
set_option linter.all false
set_option maxRecDepth 100000
set_option maxHeartbeats 2000000
set_option autoImplicit false
/-! Weakest wishes of the pieces of a text: eW, tW, aW, sW, bW; rules by syntax. -/
namespace G
open PySem PySem.Spec PyProof.Rows L2 TL
structure eW (X : Cx) (e : Expr) (σ : L2.St) (H : Hp) (Q : VK) : Prop where
  run : ∀ pins s, Inv X pins σ H s → wpAny (model X.prog X.w) X.A (eval e X.env) (EP X pins σ Q) X.xe s
structure tW (X : Cx) (e : Expr) (σ : L2.St) (H : Hp) (Q : Bool → Hp → Prop) : Prop where
  run : ∀ pins s, Inv X pins σ H s → wpAny (model X.prog X.w) X.A (isTrue e X.env (eval e X.env)) (TP X pins σ Q) X.xe s
structure cW (X : Cx) (e : Expr) (σ : L2.St) (H : Hp) (Q : Bool → Hp → Prop) : Prop where
  run : ∀ whole pins s, Inv X pins σ H s → wpAny (model X.prog X.w) X.A (isTrue e X.env whole) (TP X pins σ Q) X.xe s
structure aW (X : Cx) (es : List Expr) (σ : L2.St) (H : Hp) (Q : List V → Hp → Prop) : Prop where
  run : ∀ pos pins s, Inv X pins σ H s → wpAny (model X.prog X.w) X.A (spliced (backTo pos (starEach es X.env))) (AP X pins σ Q) X.xe s
structure sW (X : Cx) (st : Stmt) (D : Ends) (σ : L2.St) (H : Hp) : Prop where
  run : ∀ pins s, Inv X pins σ H s → wpAny (model X.prog X.w) X.A (exec st X.env) (SP X pins D) X.xe s
structure bW (X : Cx) (b : List Stmt) (D : Ends) (σ : L2.St) (H : Hp) : Prop where
  run : ∀ pins s, Inv X pins σ H s → wpAny (model X.prog X.w) X.A (execs b X.env) (SP X pins D) X.xe s
structure gW (X : Cx) (e : Expr) (v : V) (σ : L2.St) (H : Hp) (Q : L2.St → Hp → Prop) : Prop where
  run : ∀ pins s u, Inv X pins σ H s → RelV v u → wpAny (model X.prog X.w) X.A (assign e X.env u) (fun _ s' => ∃ σ' H', Inv X pins σ' H' s' ∧ Q σ' H') X.xe s
structure oW (X : Cx) (f : Value → Value → Sem Value) (x y : V) (H : Hp) (Q : VK) : Prop where
  run : ∀ pins s σ v u, Inv X pins σ H s → RelV x v → RelV y u → wpAny (model X.prog X.w) X.A (f v u) (EP X pins σ Q) X.xe s
structure uW (X : Cx) (f : Value → Sem Value) (x : V) (H : Hp) (Q : VK) : Prop where
  run : ∀ pins s σ v, Inv X pins σ H s → RelV x v → wpAny (model X.prog X.w) X.A (f v) (EP X pins σ Q) X.xe s
structure kW (X : Cx) (f : Value) (xs : List V) (H : Hp) (Q : VK) : Prop where
  run : ∀ pins s σ us, Inv X pins σ H s → Vals xs us → wpAny (model X.prog X.w) X.A (call f us) (EP X pins σ Q) X.xe s
section
variable {X : Cx} {e : Expr} {es : List Expr} {st : Stmt} {b : List Stmt}
theorem PEw : PE X e (eW X e) := ⟨fun pins s _ _ _ I h => h.run pins s I⟩
theorem PTw : PT X e (tW X e) := ⟨fun pins s _ _ _ I h => h.run pins s I⟩
theorem PWw : PW X e (cW X e) := ⟨fun wh pins s _ _ _ I h => h.run wh pins s I⟩
theorem PAw : PA X es (aW X es) := ⟨fun pos pins s _ _ _ I h => h.run pos pins s I⟩
theorem PSw : PS X st (sW X st) := ⟨fun pins s _ _ _ I h => h.run pins s I⟩
theorem PBw : PSs X b (bW X b) := ⟨fun pins s _ _ _ I h => h.run pins s I⟩
theorem PGw : PG X e (gW X e) := ⟨fun pins s _ _ v u _ I r h => h.run pins s u I r⟩
theorem OPw {f : Value → Value → Sem Value} : OpR X f (oW X f) := fun pins s σ H x y v u Q I rx ry h => h.run pins s σ v u I rx ry
theorem UNw {f : Value → Sem Value} : UnR X f (uW X f) := fun pins s σ H x v Q I rx h => h.run pins s σ v I rx
theorem KRw {f : Value} : CallR X f (kW X f) := fun pins s σ H xs us Q I r h => h.run pins s σ us I r
theorem eI {t : TE} {σ : L2.St} {H : Hp} {Q : VK} (h : PE X e t) (q : t σ H Q) : eW X e σ H Q := ⟨fun pins s I => h.run pins s σ H Q I q⟩
theorem tI {t : TT} {σ : L2.St} {H : Hp} {Q : Bool → Hp → Prop} (h : PT X e t) (q : t σ H Q) : tW X e σ H Q := ⟨fun pins s I => h.run pins s σ H Q I q⟩
theorem cI {t : TT} {σ : L2.St} {H : Hp} {Q : Bool → Hp → Prop} (h : PW X e t) (q : t σ H Q) : cW X e σ H Q := ⟨fun wh pins s I => h.run wh pins s σ H Q I q⟩
theorem aI {t : TA} {σ : L2.St} {H : Hp} {Q : List V → Hp → Prop} (h : PA X es t) (q : t σ H Q) : aW X es σ H Q := ⟨fun pos pins s I => h.run pos pins s σ H Q I q⟩
theorem sI {t : TS} {D : Ends} {σ : L2.St} {H : Hp} (h : PS X st t) (q : t D σ H) : sW X st D σ H := ⟨fun pins s I => h.run pins s σ H D I q⟩
theorem bI {t : TS} {D : Ends} {σ : L2.St} {H : Hp} (h : PSs X b t) (q : t D σ H) : bW X b D σ H := ⟨fun pins s I => h.run pins s σ H D I q⟩
theorem gI {t : TG} {v : V} {σ : L2.St} {H : Hp} {Q : L2.St → Hp → Prop} (h : PG X e t) (q : t v σ H Q) : gW X e v σ H Q := ⟨fun pins s u I r => h.run pins s σ H v u Q I r q⟩
theorem oI {f : Value → Value → Sem Value} {r : R2} {x y : V} {H : Hp} {Q : VK} (h : OpR X f r) (q : r x y H Q) : oW X f x y H Q := ⟨fun pins s σ v u I rx ry => h pins s σ H x y v u Q I rx ry q⟩
theorem uI {f : Value → Sem Value} {r : V → Hp → VK → Prop} {x : V} {H : Hp} {Q : VK} (h : UnR X f r) (q : r x H Q) : uW X f x H Q := ⟨fun pins s σ v I rx => h pins s σ H x v Q I rx q⟩
theorem kI {f : Value} {r : List V → Hp → VK → Prop} {xs : List V} {H : Hp} {Q : VK} (h : CallR X f r) (q : r xs H Q) : kW X f xs H Q := ⟨fun pins s σ us I rx => h pins s σ H xs us Q I rx q⟩
theorem eMono {σ : L2.St} {H : Hp} {Q Q' : VK} (h : eW X e σ H Q) (i : ∀ v H', Q v H' → Q' v H') : eW X e σ H Q' := ⟨fun pins s I => wpAny_mono (h.run pins s I) (fun _ _ ⟨v, H', a, b, c⟩ => ⟨v, H', a, b, i v H' c⟩) fun _ _ x => x⟩
theorem tMono {σ : L2.St} {H : Hp} {Q Q' : Bool → Hp → Prop} (h : tW X e σ H Q) (i : ∀ v H', Q v H' → Q' v H') : tW X e σ H Q' := ⟨fun pins s I => wpAny_mono (h.run pins s I) (fun _ _ ⟨H', a, c⟩ => ⟨H', a, i _ H' c⟩) fun _ _ x => x⟩
end

/-! ### what a context tells -/
def cxr (P : Program) (w : World) (K : PySem.W.Frag) (mg : Str → Option Value) (base : Heap) (N : List Str) (q : Str) (st : Stmt) (f : Addr) (cd : Value) (A : Around) (outer : List Env) (s : Shared) (H : Hp) (E : XK) : Cx := cxOf (L2.CX P w) P w K mg base N q (defScope st) f cd A outer s H E
class CxN (X : Cx) (N : outParam (List Str)) : Prop where h : X.N = N
class CxK (X : Cx) (K : outParam PySem.W.Frag) : Prop where h : X.K = K
class CxM (X : Cx) (mg : outParam (Str → Option Value)) : Prop where h : X.mg = mg
class CxC (X : Cx) : Prop where h : X.calm = true
class CxO (X : Cx) : Prop where h : PassesOwn (model X.prog X.w) X.A X.env X.xe
class CxT (X : Cx) (W : outParam WX) : Prop where h : Takes X W
/-- the slot of a name -/
class Slt (N : List Str) (x : Str) (i : outParam Nat) : Prop where h : N[i]? = some x
instance (priority := high) slt0 {x : Str} {N : List Str} : Slt (x :: N) x 0 := ⟨rfl⟩
instance slt1 {x y : Str} {N : List Str} {i : Nat} [s : Slt N x i] : Slt (y :: N) x (i + 1) := ⟨s.h⟩
class Blt (x : Str) (v : outParam Value) : Prop where h : bootBuiltins x = some v
instance : Blt "len" (.builtin "len") := ⟨boot_len⟩
instance : Blt "isinstance" (.builtin "isinstance") := ⟨boot_isinstance⟩
instance : Blt "min" (.builtin "min") := ⟨boot_min⟩
instance : Blt "max" (.builtin "max") := ⟨boot_max⟩
instance : Blt "sorted" (.builtin "sorted") := ⟨boot_sorted⟩
instance : Blt "sum" (.builtin "sum") := ⟨boot_sum⟩
instance : Blt "any" (.builtin "any") := ⟨boot_any⟩
instance : Blt "all" (.builtin "all") := ⟨boot_all⟩
instance : Blt "abs" (.builtin "abs") := ⟨boot_abs⟩
instance : Blt "ord" (.builtin "ord") := ⟨boot_ord⟩
instance : Blt "chr" (.builtin "chr") := ⟨boot_chr⟩
instance : Blt "range" (.type "range") := ⟨boot_range⟩
instance : Blt "list" (.type "list") := ⟨boot_list⟩
instance : Blt "tuple" (.type "tuple") := ⟨boot_tuple⟩
instance : Blt "int" (.type "int") := ⟨boot_int⟩
instance : Blt "str" (.type "str") := ⟨boot_str⟩
instance : Blt "bool" (.type "bool") := ⟨boot_bool⟩
instance : Blt "set" (.type "set") := ⟨boot_set⟩
instance : Blt "dict" (.type "dict") := ⟨boot_dict⟩
instance : Blt "enumerate" (.type "enumerate") := ⟨boot_enumerate⟩
instance : Blt "zip" (.type "zip") := ⟨boot_zip⟩
instance : Blt "reversed" (.type "reversed") := ⟨boot_reversed⟩
instance : Blt "ValueError" (.type "ValueError") := ⟨by decide +kernel⟩
/-- what a name of the module holds -/
class Gn (mg : Str → Option Value) (x : Str) (v : outParam (Option Value)) : Prop where h : mg x = v
section
variable {P : Program} {w : World} {K : PySem.W.Frag} {mg : Str → Option Value} {base : Heap} {N : List Str} {q : Str} {st : Stmt} {f : Addr} {cd : Value} {A : Around} {outer : List Env} {s : Shared} {H : Hp} {E : XK}
instance : CxN (cxr P w K mg base N q st f cd A outer s H E) N := ⟨rfl⟩
instance : CxK (cxr P w K mg base N q st f cd A outer s H E) K := ⟨rfl⟩
instance : CxM (cxr P w K mg base N q st f cd A outer s H E) mg := ⟨rfl⟩
instance : CxC (cxr P w K mg base N q st f cd A outer s H E) := ⟨rfl⟩
instance : CxO (cxr P w K mg base N q st f cd A outer s H E) := ⟨passes_of (X := cxr P w K mg base N q st f cd A outer s H E) rfl⟩
instance : CxT (cxr P w K mg base N q st f cd A outer s H E) (fun cls d _ H => E cls d H) := ⟨takes_of (X := cxr P w K mg base N q st f cd A outer s H E) rfl rfl rfl rfl⟩
end
section
variable {X : Cx} {s : Shared} {H : Hp} {sc : Scope} {ce : Env} {fp : List Addr} {pn : List (Addr × Obj)} {xe : Value → Shared → Prop} {a : Addr}
instance {N : List Str} [c : CxN X N] : CxN (X.blk s H sc ce fp) N := ⟨c.h⟩
instance {K : PySem.W.Frag} [c : CxK X K] : CxK (X.blk s H sc ce fp) K := ⟨c.h⟩
instance {mg : Str → Option Value} [c : CxM X mg] : CxM (X.blk s H sc ce fp) mg := ⟨c.h⟩
instance [c : CxC X] : CxC (X.blk s H sc ce fp) := ⟨c.h⟩
instance : CxT (X.blk s H sc ce fp) (fun _ _ _ _ => False) := ⟨takes0⟩
instance {N : List Str} [c : CxN X N] : CxN (X.tr pn xe) N := ⟨c.h⟩
instance {K : PySem.W.Frag} [c : CxK X K] : CxK (X.tr pn xe) K := ⟨c.h⟩
instance {mg : Str → Option Value} [c : CxM X mg] : CxM (X.tr pn xe) mg := ⟨c.h⟩
instance [c : CxC X] : CxC (X.tr pn xe) := ⟨c.h⟩
instance {N : List Str} [c : CxN X N] : CxN (X.suite a pn) N := ⟨c.h⟩
instance {K : PySem.W.Frag} [c : CxK X K] : CxK (X.suite a pn) K := ⟨c.h⟩
instance {mg : Str → Option Value} [c : CxM X mg] : CxM (X.suite a pn) mg := ⟨c.h⟩
end

/-! ### expressions -/
section
variable {X : Cx} {σ : L2.St} {H : Hp} {Q : VK} {pos p2 p3 p4 : Pos} {a b c : Expr} {rest : List Expr}
theorem e_var {N : List Str} {x : Str} {i : Nat} {v : V} [cn : CxN X N] [sl : Slt N x i] (hs : σ[i]? = some (some v)) (q : Q v H)
    (hv : Vis X.env.scope x := by first | exact Or.inl rfl | exact Or.inr (Or.inl rfl) | exact Or.inr (Or.inr rfl)) (hd : (x == ("__debug__" : Str)) = false := by decide) (hcd : (x == ("__classdict__" : Str)) = false := by decide) : eW X (.Name x pos) σ H Q :=
  eI (pe_var (i := i) (by rw [cn.h]; exact sl.h) hv hd hcd) ⟨v, hs, q⟩
theorem e_int {i : Int} {j : Nat} (q : Q (.int i) H) : eW X (.Constant (.int i) j pos) σ H Q := eI pe_int q
theorem e_bl {i : Bool} {j : Nat} (q : Q (.bl i) H) : eW X (.Constant (.bool i) j pos) σ H Q := eI pe_bl q
theorem e_non {j : Nat} (q : Q .non H) : eW X (.Constant .none j pos) σ H Q := eI pe_non q
theorem e_str {x : Str} {j : Nat} (q : Q (.str x) H) : eW X (.Constant (.str x) j pos) σ H Q := eI pe_str q
theorem e_glob {mg : Str → Option Value} {x : Str} {u : Value} {v : V} [cm : CxM X mg] [g : Gn mg x (some u)] (r : RelV v u) (q : Q v H) (hg : Gl X x := by rfl) (hd : (x == ("__debug__" : Str)) = false := by decide) : eW X (.Name x pos) σ H Q :=
  eI (pe_glob hg (by rw [cm.h]; exact g.h) r hd) q
theorem e_globR {mg : Str → Option Value} {x : Str} {f : Addr} [cm : CxM X mg] [g : Gn mg x (some (.ref f))] (q : Q (.ref f) H) (hg : Gl X x := by rfl) (hd : (x == ("__debug__" : Str)) = false := by decide) : eW X (.Name x pos) σ H Q :=
  eI (pe_glob (v := .ref f) hg (by rw [cm.h]; exact g.h) rfl hd) q
theorem e_globI {mg : Str → Option Value} {x : Str} {i : Int} {t : Tok} [cm : CxM X mg] [g : Gn mg x (some (.int i t))] (q : Q (.int i) H) (hg : Gl X x := by rfl) (hd : (x == ("__debug__" : Str)) = false := by decide) : eW X (.Name x pos) σ H Q :=
  eI (pe_glob (v := .int i) hg (by rw [cm.h]; exact g.h) ⟨_, rfl⟩ hd) q
theorem e_globS {mg : Str → Option Value} {x : Str} {i : Str} {t : Tok} [cm : CxM X mg] [g : Gn mg x (some (.str i t))] (q : Q (.str i) H) (hg : Gl X x := by rfl) (hd : (x == ("__debug__" : Str)) = false := by decide) : eW X (.Name x pos) σ H Q :=
  eI (pe_glob (v := .str i) hg (by rw [cm.h]; exact g.h) ⟨_, rfl⟩ hd) q
theorem e_ty {mg : Str → Option Value} {x : Str} {n : String} [cm : CxM X mg] [g : Gn mg x none] [bl : Blt x (.type n)] (q : Q (.ty n) H) (hg : Gl X x := by rfl) (hn : x ≠ "__name__" := by decide) (hd : (x == ("__debug__" : Str)) = false := by decide) : eW X (.Name x pos) σ H Q :=
  eI (pe_bltn (v := .ty n) hg (by rw [cm.h]; exact g.h) bl.h rfl hn hd) q
theorem e_bin {op : Operator} (h : eW X a σ H fun x H1 => eW X b σ H1 fun y H2 => oW X (binaryOp op) x y H2 Q) : eW X (.BinOp a op b pos) σ H Q := eI (pe_op OPw PEw PEw) h
theorem e_un {op : UnaryOp} (h : eW X a σ H fun x H1 => uW X (unaryOp op) x H1 Q) : eW X (.UnaryOp op a pos) σ H Q := eI (pe_un UNw PEw) h
theorem e_cmp {op : CmpOp} (h : eW X a σ H fun x H1 => eW X b σ H1 fun y H2 => oW X (compareOp op) x y H2 Q) (hm : behindInMarks op b = false := by first | exact nomark _ | rfl) : eW X (.Compare a [op] [b] pos) σ H Q := eI (pe_cmpR OPw PEw PEw hm) h
theorem e_isN {j : Nat} (h : eW X a σ H fun x H1 => Q (.bl (decide (x = .non))) H1) : eW X (.Compare a [.Is] [.Constant .none j p2] pos) σ H Q := eI (pe_cmp (pc_isN PEw) rfl) h
theorem e_notN {j : Nat} (h : eW X a σ H fun x H1 => Q (.bl (!decide (x = .non))) H1) : eW X (.Compare a [.IsNot] [.Constant .none j p2] pos) σ H Q := eI (pe_cmp (pc_notN PEw) rfl) h
theorem e_ifE {t : Expr} (h : tW X t σ H fun k H1 => if k = true then eW X a σ H1 Q else eW X b σ H1 Q) : eW X (.IfExp t a b pos) σ H Q := eI (pe_ifExp PTw PEw PEw) h
theorem e_one {op : BoolOp} (h : eW X a σ H Q) : eW X (.BoolOp op [a] pos) σ H Q := eI (pe_one PEw) h
theorem e_and (h : eW X a σ H fun x H1 => ∃ k, x = .bl k ∧ if k = true then eW X (.BoolOp .And (b :: rest) pos) σ H1 Q else Q (.bl false) H1) : eW X (.BoolOp .And (a :: b :: rest) pos) σ H Q := eI (pe_and PEw PEw) h
theorem e_or (h : eW X a σ H fun x H1 => ∃ k, x = .bl k ∧ if k = true then Q (.bl true) H1 else eW X (.BoolOp .Or (b :: rest) pos) σ H1 Q) : eW X (.BoolOp .Or (a :: b :: rest) pos) σ H Q := eI (pe_or PEw PEw) h
theorem e_not (h : eW X a σ H fun x H1 => ∃ k, x = .bl k ∧ Q (.bl (!k)) H1) : eW X (.UnaryOp .Not a pos) σ H Q := eI (pe_not PEw) h
theorem e_tup {es : List Expr} {k : Nat} (h : aW X es σ H fun xs H1 => xs.length ≤ sizeLine ∧ ∀ p, H1 p = none → Q (.ref p) (upd H1 p (.tup xs))) : eW X (.Tuple es k pos) σ H Q := eI (pe_tup PAw) h
theorem e_lst {es : List Expr} (h : aW X es σ H fun xs H1 => xs.length ≤ sizeLine ∧ ∀ p, H1 p = none → Q (.ref p) (upd H1 p (.lst xs))) : eW X (.List es pos) σ H Q := eI (pe_lst PAw) h
/-- and, or of two truths whose joint answer is told -/
theorem e_andJ {d : Bool} (h : eW X a σ H fun x H1 => ∃ k, x = .bl k ∧ (k = true → ∀ Q' : VK, Q' (.bl d) H1 → eW X (.BoolOp .And (b :: rest) pos) σ H1 Q') ∧ Q (.bl (k && d)) H1) : eW X (.BoolOp .And (a :: b :: rest) pos) σ H Q :=
  e_and (eMono h fun x H1 ⟨k, e, h1, h2⟩ => ⟨k, e, by cases k with | true => exact (h1 rfl _ h2) | false => exact h2⟩)
theorem e_orJ {d : Bool} (h : eW X a σ H fun x H1 => ∃ k, x = .bl k ∧ (k = false → ∀ Q' : VK, Q' (.bl d) H1 → eW X (.BoolOp .Or (b :: rest) pos) σ H1 Q') ∧ Q (.bl (k || d)) H1) : eW X (.BoolOp .Or (a :: b :: rest) pos) σ H Q :=
  e_or (eMono h fun x H1 ⟨k, e, h1, h2⟩ => ⟨k, e, by cases k with | true => exact h2 | false => exact (h1 rfl _ h2)⟩)
/-- a chain of two comparisons -/
theorem e_chain {op op' : CmpOp} (h : eW X a σ H fun x H1 => eW X b σ H1 fun y H2 => oW X (compareOp op) x y H2 fun z H3 => ∃ k, z = .bl k ∧ (if k = true then eW X c σ H3 (fun w' H4 => oW X (compareOp op') y w' H4 Q) else Q (.bl false) H3))
    (hm : lastMarks [op, op'] [b, c] = false := by with_unfolding_all rfl) : eW X (.Compare a [op, op'] [b, c] pos) σ H Q := eI (pe_chain OPw OPw PEw PEw PEw hm) h
theorem t_chain {op op' : CmpOp} {R : Bool → Hp → Prop} (h : eW X a σ H fun x H1 => eW X b σ H1 fun y H2 => oW X (compareOp op) x y H2 fun z H3 => ∃ k, z = .bl k ∧ (if k = true then eW X c σ H3 (fun w' H4 => oW X (compareOp op') y w' H4 fun u H5 => ∃ k, u = .bl k ∧ R k H5) else (∃ k', V.bl false = .bl k' ∧ R k' H3)))
    (hm : lastMarks [op, op'] [b, c] = false := by with_unfolding_all rfl) : tW X (.Compare a [op, op'] [b, c] pos) σ H R := tI (pt_chain OPw OPw PEw PEw PEw hm) h

/-! ### arguments -/
theorem a_nil {R : List V → Hp → Prop} (h : R [] H) : aW X [] σ H R := aI pa_nil h
theorem a_cons {es : List Expr} {R : List V → Hp → Prop} (h : eW X a σ H fun x H1 => aW X es σ H1 fun xs H2 => R (x :: xs) H2) (hs : starEach (a :: es) X.env = (false, eval a X.env) :: starEach es X.env := by rfl) : aW X (a :: es) σ H R := aI (pa_cons PEw PAw hs) h

/-! ### tests -/
variable {R : Bool → Hp → Prop}
theorem t_val {e : Expr} (h : eW X e σ H fun x H1 => ∃ k, x = .bl k ∧ R k H1) (he : ∀ whole, isTrue e X.env whole = (do let v ← whole; standAt e.pos; holding [v] (truthy v)) := by intro _; rfl) : tW X e σ H R := tI (pt_val PEw he) h
theorem t_tru {e : Expr} (h : eW X e σ H fun x H1 => ∃ k, TruV X.K x H1 k ∧ R k H1) (he : ∀ whole, isTrue e X.env whole = (do let v ← whole; standAt e.pos; holding [v] (truthy v)) := by intro _; rfl) : tW X e σ H R := tI (pt_truth PEw he) h
theorem t_cmp {op : CmpOp} (h : eW X a σ H fun x H1 => eW X b σ H1 fun y H2 => oW X (compareOp op) x y H2 fun z H3 => ∃ k, z = .bl k ∧ R k H3) (hm : behindInMarks op b = false := by first | exact nomark _ | rfl) : tW X (.Compare a [op] [b] pos) σ H R := tI (pt_cmpR OPw PEw PEw hm) h
theorem t_isN {j : Nat} (h : eW X a σ H fun x H1 => R (decide (x = .non)) H1) : tW X (.Compare a [.Is] [.Constant .none j p2] pos) σ H R := tI (pt_cmp (pc_isN PEw) rfl) (eMono h fun _ _ q => ⟨_, rfl, q⟩)
theorem t_notN {j : Nat} (h : eW X a σ H fun x H1 => R (!decide (x = .non)) H1) : tW X (.Compare a [.IsNot] [.Constant .none j p2] pos) σ H R := tI (pt_cmp (pc_notN PEw) rfl) (eMono h fun _ _ q => ⟨_, rfl, q⟩)
theorem t_not (h : tW X a σ H fun k H1 => R (!k) H1) : tW X (.UnaryOp .Not a pos) σ H R := tI (pt_not PTw) h
theorem t_and (h : cW X (.BoolOp .And rest pos) σ H R) : tW X (.BoolOp .And rest pos) σ H R := tI (PWw).pt h
theorem t_or (h : cW X (.BoolOp .Or rest pos) σ H R) : tW X (.BoolOp .Or rest pos) σ H R := tI (PWw).pt h
theorem c_and1 (h : tW X a σ H R) : cW X (.BoolOp .And [a] pos) σ H R := cI (pw_and1 PTw) h
theorem c_or1 (h : tW X a σ H R) : cW X (.BoolOp .Or [a] pos) σ H R := cI (pw_or1 PTw) h
theorem c_and (h : tW X a σ H fun k H1 => if k = true then cW X (.BoolOp .And (b :: rest) pos) σ H1 R else R false H1) : cW X (.BoolOp .And (a :: b :: rest) pos) σ H R := cI (pw_and PTw PWw) h
theorem c_or (h : tW X a σ H fun k H1 => if k = true then R true H1 else cW X (.BoolOp .Or (b :: rest) pos) σ H1 R) : cW X (.BoolOp .Or (a :: b :: rest) pos) σ H R := cI (pw_or PTw PWw) h
/-- .. joined: the answer of both is told -/
theorem c_andJ {d : Bool} (h : tW X a σ H fun k H1 => (k = true → ∀ R' : Bool → Hp → Prop, R' d H1 → cW X (.BoolOp .And (b :: rest) pos) σ H1 R') ∧ R (k && d) H1) : cW X (.BoolOp .And (a :: b :: rest) pos) σ H R :=
  c_and (tMono h fun k H1 ⟨h1, h2⟩ => by cases k with | true => exact (h1 rfl _ h2) | false => exact h2)
theorem c_orJ {d : Bool} (h : tW X a σ H fun k H1 => (k = false → ∀ R' : Bool → Hp → Prop, R' d H1 → cW X (.BoolOp .Or (b :: rest) pos) σ H1 R') ∧ R (k || d) H1) : cW X (.BoolOp .Or (a :: b :: rest) pos) σ H R :=
  c_or (tMono h fun k H1 ⟨h1, h2⟩ => by cases k with | true => exact h2 | false => exact (h1 rfl _ h2))
end

/-! ### statements -/
section
variable {X : Cx} {σ : L2.St} {H : Hp} {D : Ends} {pos p2 p3 p4 : Pos} {e it tg : Expr} {st : Stmt} {body more : List Stmt}
theorem b_nil (h : D.nx σ H) : bW X [] D σ H := bI pss_nil h
theorem b_cons (h : sW X st { D with nx := bW X more D } σ H) : bW X (st :: more) D σ H := bI (pss_cons PSw PBw) h
theorem b_one (h : sW X st D σ H) : bW X [st] D σ H := bI (pss_one PSw) h
theorem s_ret (h : eW X e σ H D.rt) : sW X (.Return (some e) pos) D σ H := sI (ps_ret PEw) h
theorem s_retN (h : D.rt .non H) : sW X (.Return none pos) D σ H := sI ps_retN h
theorem s_pass (h : D.nx σ H) : sW X (.Pass pos) D σ H := sI ps_pass h
theorem s_brk (h : D.bk σ H) : sW X (.Break pos) D σ H := sI ps_break h
theorem s_cont (h : D.ct σ H) : sW X (.Continue pos) D σ H := sI ps_continue h
theorem s_expr (h : eW X e σ H fun _ H1 => D.nx σ H1) (hs : swapsWith e none pos.line X.env = pure false := by rfl) : sW X (.Expr e pos) D σ H := sI (ps_expr PEw hs) h
theorem s_if {t : Expr} {x y : List Stmt} (h : tW X t σ H fun k H1 => if k = true then bW X x D σ H1 else bW X y D σ H1) : sW X (.If t x y pos) D σ H := sI (ps_if PTw PBw PBw) h
class NdN (N : List Str) : Prop where h : N.Nodup
theorem s_set {N : List Str} {x : Str} {i : Nat} [cn : CxN X N] [sl : Slt N x i] [nd : NdN N] (h : eW X e σ H fun v H1 => D.nx (σ.set i (some v)) H1) (hx : Loc X.env.scope x := by first | exact Or.inl rfl | exact Or.inr rfl) (hs : swapsWith e (some (.Name x p2)) pos.line X.env = pure false := by rfl)
    (hf : X.fn x = true ∨ X.env.scope.names.lookup x = some .local := by first | exact .inl rfl | exact .inr rfl | assumption) : sW X (.Assign [.Name x p2] e pos) D σ H :=
  sI (ps_set (i := i) (by rw [cn.h]; exact nd.h) (by rw [cn.h]; exact sl.h) hx PEw hs hf) h
theorem g_name {N : List Str} {x : Str} {i : Nat} {v : V} {Q : L2.St → Hp → Prop} [cn : CxN X N] [sl : Slt N x i] [nd : NdN N] (h : Q (σ.set i (some v)) H) (hx : Loc X.env.scope x := by first | exact Or.inl rfl | exact Or.inr rfl)
    (hf : X.fn x = true ∨ X.env.scope.names.lookup x = some .local := by first | exact .inl rfl | exact .inr rfl | assumption) : gW X (.Name x pos) v σ H Q :=
  gI (pg_name (i := i) (by rw [cn.h]; exact nd.h) (by rw [cn.h]; exact sl.h) hx hf) h
theorem s_asg (h : eW X e σ H fun v H1 => gW X tg v σ H1 D.nx) (hs : swapsWithSole [tg] e pos.line X.env = pure false := by rfl) (hw : swappedStores [tg] e X.env = pure none := by rfl)
    (h1 : (assignEach [tg] X.env).map (·.2) = [assign tg X.env] := by rfl) : sW X (.Assign [tg] e pos) D σ H := sI (ps_asg PEw PGw hs hw h1) h
/-- while: W by what is left -/
theorem s_while {c : Expr} [ow : CxO X] (W : Nat → L2.St → Hp → Prop) (m : Nat) (h0 : W m σ H)
    (h : ∀ m σ H, W m σ H → tW X c σ H fun b H1 => if b = true then bW X body { D with nx := fun σ' H' => ∃ m', m' < m ∧ W m' σ' H', ct := fun σ' H' => ∃ m', m' < m ∧ W m' σ' H', bk := D.nx } σ H1 else D.nx σ H1) : sW X (.While c body [] pos) D σ H :=
  sI (ps_while ow.h PTw PBw) ⟨W, ⟨m, h0⟩, fun m σ H w => tMono (h m σ H w) fun b H1 q => by
    cases b with
    | true => exact ⟨_, fun _ _ z => z, q⟩
    | false => exact q⟩
theorem s_forL [ow : CxO X] [cc : CxC X] (h : eW X it σ H fun x H1 => ∃ a xs, x = .ref a ∧ SqL X.K H1 a xs ∧ ∃ Pv : Nat → L2.St → Hp → Prop, Pv 0 σ H1 ∧ (∀ i σ' H', i ≤ xs.length → Pv i σ' H' → SqL X.K H' a xs) ∧
      (∀ i v σ' H', xs[i]? = some v → Pv i σ' H' → gW X tg v σ' H' fun σ2 H2 => bW X body { D with nx := Pv (i + 1), ct := Pv (i + 1), bk := D.nx } σ2 H2) ∧ ∀ σ' H', Pv xs.length σ' H' → D.nx σ' H') (hs : ∀ x, foldedSetIterable it X.env x = pure x := by intro _; rfl) : sW X (.For tg it body [] pos) D σ H :=
  sI (ps_for ow.h cc.h (pi_list PEw) PGw PBw hs) (eMono h fun x H1 ⟨a, xs, e1, e2, Pv, q0, q1, q2, q3⟩ => ⟨a, e1, ⟨xs, e2⟩, for_list (K := X.K) (a := a) (xs := xs) Pv q0 q1 q2 q3⟩)
theorem s_forT [ow : CxO X] [cc : CxC X] (h : eW X it σ H fun x H1 => ∃ a xs, x = .ref a ∧ SqT X.K H1 a xs ∧ ∃ Pv : Nat → L2.St → Hp → Prop, Pv 0 σ H1 ∧ (∀ i σ' H', i ≤ xs.length → Pv i σ' H' → SqT X.K H' a xs) ∧
      (∀ i v σ' H', xs[i]? = some v → Pv i σ' H' → gW X tg v σ' H' fun σ2 H2 => bW X body { D with nx := Pv (i + 1), ct := Pv (i + 1), bk := D.nx } σ2 H2) ∧ ∀ σ' H', Pv xs.length σ' H' → D.nx σ' H') (hs : ∀ x, foldedSetIterable it X.env x = pure x := by intro _; rfl) : sW X (.For tg it body [] pos) D σ H :=
  sI (ps_for ow.h cc.h (pi_tup PEw) PGw PBw hs) (eMono h fun x H1 ⟨a, xs, e1, e2, Pv, q0, q1, q2, q3⟩ => ⟨a, e1, ⟨xs, e2⟩, for_tup (K := X.K) (a := a) (xs := xs) Pv q0 q1 q2 q3⟩)
end

/-! ### values -/
section
variable {X : Cx} {H : Hp} {Q : VK} {i j : Int} {k l : Bool} {x y : V} {z u : Str}
theorem o_add (q : Q (.int (i + j)) H) : oW X (binaryOp .Add) (.int i) (.int j) H Q := oI op_add ⟨_, _, rfl, rfl, q⟩
theorem o_sub (q : Q (.int (i - j)) H) : oW X (binaryOp .Sub) (.int i) (.int j) H Q := oI op_sub ⟨_, _, rfl, rfl, q⟩
theorem o_mul (h : CMulW i j) (q : Q (.int (i * j)) H) : oW X (binaryOp .Mult) (.int i) (.int j) H Q := oI op_mulW ⟨_, _, rfl, rfl, h, q⟩
theorem o_mulS (h : CMul i j) (q : Q (.int (i * j)) H) : oW X (binaryOp .Mult) (.int i) (.int j) H Q := oI op_mul ⟨_, _, rfl, rfl, h, q⟩
theorem o_mod (h : 0 < j) (q : Q (.int (i % j)) H) : oW X (binaryOp .Mod) (.int i) (.int j) H Q := oI op_mod ⟨_, _, rfl, rfl, h, q⟩
theorem o_div (h : CDiv i j) (q : Q (.int (i / j)) H) : oW X (binaryOp .FloorDiv) (.int i) (.int j) H Q := oI op_fdiv ⟨_, _, rfl, rfl, h, q⟩
theorem o_pow (h : CPow i j) (q : Q (.int (i ^ j.toNat)) H) : oW X (binaryOp .Pow) (.int i) (.int j) H Q := oI op_pow ⟨_, _, rfl, rfl, h, q⟩
theorem o_cat (h : z.length + u.length ≤ sizeLine) (q : Q (.str (z ++ u)) H) : oW X (binaryOp .Add) (.str z) (.str u) H Q := oI op_add_str ⟨_, _, rfl, rfl, h, q⟩
theorem o_lt (q : Q (.bl (decide (i < j))) H) : oW X (compareOp .Lt) (.int i) (.int j) H Q := oI op_lt ⟨_, _, rfl, rfl, q⟩
theorem o_le (q : Q (.bl (decide (i ≤ j))) H) : oW X (compareOp .LtE) (.int i) (.int j) H Q := oI op_le ⟨_, _, rfl, rfl, q⟩
theorem o_gt (q : Q (.bl (decide (j < i))) H) : oW X (compareOp .Gt) (.int i) (.int j) H Q := oI op_gt ⟨_, _, rfl, rfl, q⟩
theorem o_ge (q : Q (.bl (decide (j ≤ i))) H) : oW X (compareOp .GtE) (.int i) (.int j) H Q := oI op_ge ⟨_, _, rfl, rfl, q⟩
theorem o_eqI (q : Q (.bl (decide (i = j))) H) : oW X (compareOp .Eq) (.int i) (.int j) H Q := oI op_eq ⟨rfl, by rw [show decide (V.int i = V.int j) = decide (i = j) from decide_eq_decide.mpr ⟨fun e => V.int.inj e, fun e => by rw [e]⟩]; exact q⟩
theorem o_neI (q : Q (.bl (!decide (i = j))) H) : oW X (compareOp .NotEq) (.int i) (.int j) H Q := oI op_ne ⟨rfl, by rw [show decide (V.int i = V.int j) = decide (i = j) from decide_eq_decide.mpr ⟨fun e => V.int.inj e, fun e => by rw [e]⟩]; exact q⟩
theorem o_eqS (q : Q (.bl (decide (z = u))) H) : oW X (compareOp .Eq) (.str z) (.str u) H Q := oI op_eq ⟨rfl, by rw [show decide (V.str z = V.str u) = decide (z = u) from decide_eq_decide.mpr ⟨fun e => V.str.inj e, fun e => by rw [e]⟩]; exact q⟩
theorem o_neS (q : Q (.bl (!decide (z = u))) H) : oW X (compareOp .NotEq) (.str z) (.str u) H Q := oI op_ne ⟨rfl, by rw [show decide (V.str z = V.str u) = decide (z = u) from decide_eq_decide.mpr ⟨fun e => V.str.inj e, fun e => by rw [e]⟩]; exact q⟩
theorem o_eqB (q : Q (.bl (decide (k = l))) H) : oW X (compareOp .Eq) (.bl k) (.bl l) H Q := oI op_eq ⟨rfl, by rw [show decide (V.bl k = V.bl l) = decide (k = l) from decide_eq_decide.mpr ⟨fun e => V.bl.inj e, fun e => by rw [e]⟩]; exact q⟩
theorem o_neB (q : Q (.bl (!decide (k = l))) H) : oW X (compareOp .NotEq) (.bl k) (.bl l) H Q := oI op_ne ⟨rfl, by rw [show decide (V.bl k = V.bl l) = decide (k = l) from decide_eq_decide.mpr ⟨fun e => V.bl.inj e, fun e => by rw [e]⟩]; exact q⟩
theorem u_neg (q : Q (.int (-i)) H) : uW X (unaryOp .USub) (.int i) H Q := uI un_neg ⟨_, rfl, q⟩
end
theorem iteD {p : Prop} [Decidable p] {A B : Prop} (h1 : p → A) (h2 : ¬ p → B) : if decide p = true then A else B := by
  by_cases h : p
  · rw [if_pos (decide_eq_true h)]; exact h1 h
  · rw [decide_eq_false h, if_neg Bool.false_ne_true]; exact h2 h
theorem iteND {p : Prop} [Decidable p] {A B : Prop} (h1 : ¬ p → A) (h2 : p → B) : if (!decide p) = true then A else B := by
  by_cases h : p
  · rw [decide_eq_true h]; exact iteF (h2 h)
  · rw [decide_eq_false h]; exact iteT (h1 h)
theorem iteB {k : Bool} {A B : Prop} (h1 : k = true → A) (h2 : k = false → B) : if k = true then A else B := by
  cases k with
  | true => exact iteT (h1 rfl)
  | false => exact iteF (h2 rfl)

/-! ### calls -/
section
variable {X : Cx} {σ : L2.St} {H : Hp} {Q : VK} {pos p2 p3 p4 apos : Pos} {a e : Expr} {es : List Expr} {P : Program} {w : World} {K : PySem.W.Frag} {mg : Str → Option Value} {base : Heap}
/-- a def of the module by its name: where it stands, how it binds, its promise -/
structure Df (P : Program) (w : World) (K : PySem.W.Frag) (mg : Str → Option Value) (base : Heap) (x : Str) (k : Nat) (ps : List Str) (sp : Sp) : Prop where
  ex : ∃ (f : Addr) (fd : FuncData), mg x = some (.ref f) ∧ PySem.W.keepIn K (.ref f) = true ∧ Binds K fd ps [] ∧ FnOk P w K mg base (L2.CX P w) k f fd ps sp
theorem e_call {x : Str} {k : Nat} {ps : List Str} {sp : Sp} {W : WX} [ct : CxT X W] (F : Df X.prog X.w X.K X.mg X.base x k ps sp) (hr : Room k X.A) (h : aW X (e :: es) σ H fun vs H1 => sp vs H1 Q fun cls d H' => W cls d σ H')
    (hg : Gl X x := by rfl) (hdb : (x == ("__debug__" : Str)) = false := by decide) (he : starEach (e :: es) X.env = (false, eval e X.env) :: starEach es X.env := by rfl) (hpl : (backTo pos (starEach es X.env)).any (·.1) = false := by rfl) : eW X (.Call (.Name x p2) (e :: es) [] pos) σ H Q := by
  obtain ⟨f, fd, h1, h2, h3, h4⟩ := F.ex
  exact eI (pe_callS (E := WE W) h4 hr hg h1 h2 h3 (fun σ => passAt ct.h σ) PAw hdb he hpl) h
theorem e_call0 {x : Str} {k : Nat} {ps : List Str} {sp : Sp} (F : Df X.prog X.w X.K X.mg X.base x k ps sp) (hr : Room k X.A) (h : sp [] H Q E0)
    (hg : Gl X x := by rfl) (hdb : (x == ("__debug__" : Str)) = false := by decide) : eW X (.Call (.Name x p2) [] [] pos) σ H Q := by
  obtain ⟨f, fd, h1, h2, h3, h4⟩ := F.ex
  exact eI (pe_call0 (E := E0) h4 hr hg h1 h2 h3 .nil passL hdb) h
theorem e_callB {x : Str} {id : String} [cm : CxM X mg] [g : Gn mg x none] [bl : Blt x (.builtin id)] (h : aW X (e :: es) σ H fun vs H1 => kW X (.builtin id) vs H1 Q)
    (hg : Gl X x := by rfl) (hn : x ≠ "__name__" := by decide) (hdb : (x == ("__debug__" : Str)) = false := by decide) (he : starEach (e :: es) X.env = (false, eval e X.env) :: starEach es X.env := by rfl) (hpl : (backTo pos (starEach es X.env)).any (·.1) = false := by rfl) : eW X (.Call (.Name x p2) (e :: es) [] pos) σ H Q :=
  eI (pe_callB KRw hg (by rw [cm.h]; exact g.h) bl.h PAw hn hdb he hpl) h
theorem e_callTy {x : Str} {id : String} [cm : CxM X mg] [g : Gn mg x none] [bl : Blt x (.type id)] (h : aW X (e :: es) σ H fun vs H1 => kW X (.type id) vs H1 Q)
    (hg : Gl X x := by rfl) (hn : x ≠ "__name__" := by decide) (hdb : (x == ("__debug__" : Str)) = false := by decide) (he : starEach (e :: es) X.env = (false, eval e X.env) :: starEach es X.env := by rfl) (hpl : (backTo pos (starEach es X.env)).any (·.1) = false := by rfl) : eW X (.Call (.Name x p2) (e :: es) [] pos) σ H Q :=
  eI (pe_callTy KRw hg (by rw [cm.h]; exact g.h) bl.h PAw hn hdb he hpl) h
end
/-! ### defs and classes of the text -/
structure At (K : PySem.W.Frag) (mg : Str → Option Value) (x q : Str) (st : Stmt) (ps : List Str) : Prop where
  ex : ∃ (f : Addr) (fd : FuncData), mg x = some (.ref f) ∧ Fun K x q st f fd ∧ Binds K fd ps []
structure MAt (K : PySem.W.Frag) (C : Addr) (x q : Str) (st : Stmt) (ps : List Str) : Prop where
  ex : ∃ (f : Addr) (fd : FuncData), Meth K C x f ∧ Fun K x q st f fd ∧ Binds K fd ps []
structure InitF (K : PySem.W.Frag) (C : Addr) (q : Str) (st : Stmt) (ps : List Str) : Prop where
  ex : ∃ (f : Addr) (fd : FuncData), Mk K C f ∧ Fun K "__init__" q st f fd ∧ Binds K fd ps []
structure ClsF (K : PySem.W.Frag) (mg : Str → Option Value) (x : Str) (C : Addr) : Prop where
  mg : mg x = some (.ref C)
  cl : Cls K C
  mks : PySem.W.makesIn K C = true
  kp : PySem.W.keepIn K (.ref C) = true
  ha : PySem.W.findIn K (.ref C) "__class__" = some (some (.builtin "object.__class__"))
  hn : PySem.W.specialIn K (.builtin "object.__class__") "__get__" = some (some (.builtin "getset_descriptor.__get__"))
  ht : PySem.W.takesIn K (.builtin "object.__class__") = some true
  hm : PySem.W.mroIn K C (.type "object") = some true
  ty : PySem.W.typeIn K (.ref C) = some (.type "type")
  ic : PySem.W.isClsIn K C = true
structure ExcF (K : PySem.W.Frag) (mg : Str → Option Value) (x : Str) (C : Addr) : Prop where
  mg : mg x = some (.ref C)
  ex : PySem.W.excIn K C [.type "ValueError", .type "Exception", .type "BaseException", .type "object"] "ValueError.__new__" = true
  kp : PySem.W.keepIn K (.ref C) = true
  be : PySem.W.subIn K (.ref C) (.type "BaseException") = some true
  ty : PySem.W.typeIn K (.ref C) = some (.type "type")
  ic : PySem.W.isClsIn K C = true
  ga : PySem.W.findIn K (.ref C) "__getattribute__" = some (some (.builtin "BaseException.__getattribute__"))
  gk : PySem.W.findIn K (.ref C) "__getattr__" = some none
  hd : PySem.W.hasDictIn K C = true
  ha : PySem.W.findIn K (.ref C) "__class__" = some (some (.builtin "object.__class__"))
  hn : PySem.W.specialIn K (.builtin "object.__class__") "__get__" = some (some (.builtin "getset_descriptor.__get__"))
  ht : PySem.W.takesIn K (.builtin "object.__class__") = some true
  hm : PySem.W.mroIn K C (.type "object") = some true
  ve : PySem.W.subIn K (.ref C) (.type "ValueError") = some true
structure Md (P : Program) (w : World) (K : PySem.W.Frag) (mg : Str → Option Value) (base : Heap) (C : Addr) (x : Str) (k : Nat) (ps : List Str) (sp : Sp) : Prop where
  ex : ∃ (f : Addr) (fd : FuncData), Meth K C x f ∧ Binds K fd ps [] ∧ FnOk P w K mg base (L2.CX P w) k f fd ps sp
/-! ### promises by the number of the arguments -/
def sp0 (R : Hp → VK → XK → Prop) : Sp := fun vs H Q E => vs = [] ∧ R H Q E
def sp1 (R : V → Hp → VK → XK → Prop) : Sp := fun vs H Q E => ∃ a, vs = [a] ∧ R a H Q E
def sp2 (R : V → V → Hp → VK → XK → Prop) : Sp := fun vs H Q E => ∃ a b, vs = [a, b] ∧ R a b H Q E
def sp3 (R : V → V → V → Hp → VK → XK → Prop) : Sp := fun vs H Q E => ∃ a b c, vs = [a, b, c] ∧ R a b c H Q E
def sp4 (R : V → V → V → V → Hp → VK → XK → Prop) : Sp := fun vs H Q E => ∃ a b c d, vs = [a, b, c, d] ∧ R a b c d H Q E
def sp5 (R : V → V → V → V → V → Hp → VK → XK → Prop) : Sp := fun vs H Q E => ∃ a b c d e, vs = [a, b, c, d, e] ∧ R a b c d e H Q E
def sp6 (R : V → V → V → V → V → V → Hp → VK → XK → Prop) : Sp := fun vs H Q E => ∃ a b c d e f, vs = [a, b, c, d, e, f] ∧ R a b c d e f H Q E
section
variable {vs : List V} {H : Hp} {Q : VK} {E : XK}
theorem sp0_len {R} (h : sp0 R vs H Q E) : vs.length = 0 := by obtain ⟨rfl, _⟩ := h; rfl
theorem sp1_len {R} (h : sp1 R vs H Q E) : vs.length = 1 := by obtain ⟨_, rfl, _⟩ := h; rfl
theorem sp2_len {R} (h : sp2 R vs H Q E) : vs.length = 2 := by obtain ⟨_, _, rfl, _⟩ := h; rfl
theorem sp3_len {R} (h : sp3 R vs H Q E) : vs.length = 3 := by obtain ⟨_, _, _, rfl, _⟩ := h; rfl
theorem sp4_len {R} (h : sp4 R vs H Q E) : vs.length = 4 := by obtain ⟨_, _, _, _, rfl, _⟩ := h; rfl
theorem sp5_len {R} (h : sp5 R vs H Q E) : vs.length = 5 := by obtain ⟨_, _, _, _, _, rfl, _⟩ := h; rfl
theorem sp6_len {R} (h : sp6 R vs H Q E) : vs.length = 6 := by obtain ⟨_, _, _, _, _, _, rfl, _⟩ := h; rfl
end
section
variable {X : Cx} {σ : L2.St} {H : Hp} {Q : VK} {pos p2 p3 p4 apos : Pos} {a e o : Expr} {es : List Expr} {mg : Str → Option Value} {C : Addr}
/-- o.m(e, ..), o.m() of an own class -/
theorem e_meth {m : Str} {k : Nat} {ps : List Str} {sp : Sp} (c : Cls X.K C) (F : Md X.prog X.w X.K X.mg X.base C m k ps sp) (hr : Room k X.A)
    (h : eW X o σ H fun x H1 => ∃ a dx fs, x = .ref a ∧ H1 a = some (.ins C dx fs) ∧ fs.lookup m = none ∧ aW X (e :: es) σ H1 fun vs H2 => sp (x :: vs) H2 Q E0) {pl : Sem Bool}
    (hst : starEach (e :: es) X.env = (false, eval e X.env) :: starEach es X.env := by rfl) (hpl : (backTo pos (starEach es X.env)).any (·.1) = false := by rfl)
    (ht : eval (.Call (.Attribute o m apos) (e :: es) [] pos) X.env = (do
      let ov ← eval o X.env
      standAt apos.atName
      let (f, first) ← holding [ov] (getMethod ov m pl)
      callWith pos f first (backTo pos (starEach (e :: es) X.env)) (backToKw pos (keywordEach [] X.env))) := by rfl) : eW X (.Call (.Attribute o m apos) (e :: es) [] pos) σ H Q := by
  obtain ⟨f, fd, h1, h2, h3⟩ := F.ex
  exact eI (pe_meth (E := E0) PEw c h1 h3 hr h2 .nil passL PAw hst hpl ht) (eMono h fun x H1 ⟨a, dx, fs, q1, q2, q3, q4⟩ => ⟨a, dx, fs, q1, q2, q3, by simpa only [List.append_nil] using q4⟩)
theorem e_meth0 {m : Str} {k : Nat} {ps : List Str} {sp : Sp} (c : Cls X.K C) (F : Md X.prog X.w X.K X.mg X.base C m k ps sp) (hr : Room k X.A)
    (h : eW X o σ H fun x H1 => ∃ a dx fs, x = .ref a ∧ H1 a = some (.ins C dx fs) ∧ fs.lookup m = none ∧ sp [x] H1 Q E0) {pl : Sem Bool}
    (ht : eval (.Call (.Attribute o m apos) [] [] pos) X.env = (do
      let ov ← eval o X.env
      standAt apos.atName
      let (f, first) ← holding [ov] (getMethod ov m pl)
      callWith pos f first (backTo pos (starEach [] X.env)) (backToKw pos (keywordEach [] X.env))) := by rfl) : eW X (.Call (.Attribute o m apos) [] [] pos) σ H Q := by
  obtain ⟨f, fd, h1, h2, h3⟩ := F.ex
  exact eI (pe_meth0 (E := E0) PEw c h1 h3 hr h2 .nil passL ht) h
theorem run_makeO {pins : List (Addr × Obj)} {s : Shared} (hm : PySem.W.makesIn X.K C = true) (hi : PySem.W.findIn X.K (.ref C) "__init__" = some (some (.builtin "object.__init__"))) (I : Inv X pins σ H s)
    (h : ∀ x dx, H x = none → H dx = none → dx ≠ x → Q (.ref x) (upd (upd H dx (.own x)) x (.ins C dx []))) : wpAny (model X.prog X.w) X.A (call (.ref C) []) (EP X pins σ Q) X.xe s := by
  have hq := h (s.heap.objs.size + 1) s.heap.objs.size (I.hok.fresh (Nat.le_succ _)) (I.hok.fresh (Nat.le_refl _)) (Nat.ne_of_lt (Nat.lt_succ_self _))
  have I2 := Inv.made (C := C) I
  have KX := I.kIn
  refine wpAny_call (make_map0 KX hm hi (fun self => PySem.W.Looks.of_pure (PySem.W.oi_bind self)) ?_)
  obtain ⟨hh, g, d, t, os⟩ := s
  have Y := PySem.W.makes_of (M := model X.prog X.w) KX hm
  have t1 : PySem.W.Looks (model X.prog X.w) ((hh.push PySem.W.emptyDict).push (PySem.W.instObj C hh.objs.size)) (typeOf (.ref (hh.objs.size + 1))) (.ref C) := (PySem.W.Looks.ld (by
    have z := Heap.get?_push_size (hh.push PySem.W.emptyDict) (o := PySem.W.instObj C hh.objs.size) rfl
    rw [Heap.size_push] at z
    exact z)).andThen .now
  have t2 : PySem.W.Looks (model X.prog X.w) ((hh.push PySem.W.emptyDict).push (PySem.W.instObj C hh.objs.size)) (isInstance (.ref (hh.objs.size + 1)) (.type "object")) true := t1.andThen (Y.top.keeps fun b o e => Heap.get?_push_of_some _ (Heap.get?_push_of_some _ e))
  refine codeAny_call_builtin PySem.W.oi_plain PySem.W.entry_oi (@PySem.W.check_slot (model X.prog X.w) _ _ _ "object.__init__" "object" "__init__" (.ref (hh.objs.size + 1)) [] [] _ PySem.W.oi_kind PySem.W.oi_split t2 (PySem.W.oi_args (.ref (hh.objs.size + 1))) ?_)
  rw [PySem.W.oi_run]
  exact wpAny_pure ⟨rfl, .ref (hh.objs.size + 1), _, I2, rfl, hq⟩
theorem e_makeO {x : Str} [cm : CxM X mg] [g : Gn mg x (some (.ref C))] (hm : PySem.W.makesIn X.K C = true) (hk : PySem.W.keepIn X.K (.ref C) = true) (hi : PySem.W.findIn X.K (.ref C) "__init__" = some (some (.builtin "object.__init__")))
    (h : ∀ x dx, H x = none → H dx = none → dx ≠ x → Q (.ref x) (upd (upd H dx (.own x)) x (.ins C dx []))) (hg : Gl X x := by rfl) (hdb : (x == ("__debug__" : Str)) = false := by decide) : eW X (.Call (.Name x p2) [] [] pos) σ H Q := ⟨fun pins s I =>
  wpAny_Call_Name_kw (ld_glob I hg (by rw [cm.h]; exact g.h) (PySem.W.callWith_K0 I.kIn hk (run_makeO hm hi I h)) hdb)⟩
end
/-! ### isinstance -/
section
variable {X : Cx} {H : Hp} {Q : VK}
theorem k_isi {x c : V} {t u : Value} {b : Bool} (hc : ClsV c u) (hx : TyX X.K H x t) (e : PySem.W.kitOne X.K t u = some b) (q : Q (.bl b) H) : kW X (.builtin "isinstance") [x, c] H Q := kI call_isi ⟨_, _, _, _, _, rfl, hc, hx, e, q⟩
theorem ClsF.tyX {K : PySem.W.Frag} {mg : Str → Option Value} {x : Str} {C a dx : Addr} {fs : List (Str × V)} (T : ClsF K mg x C) (h : H a = some (.ins C dx fs)) : TyX K H (.ref a) (.ref C) := .base (.ins h T.cl T.ha T.hn T.ht T.hm)
theorem kit_refs {K : PySem.W.Frag} {C D : Addr} {b : Bool} (hs : PySem.W.subIn K (.ref C) (.ref D) = some b) (ic : PySem.W.isClsIn K D = true) (ty : PySem.W.typeIn K (.ref D) = some (.type "type")) (ne : C ≠ D) : PySem.W.kitOne K (.ref C) (.ref D) = some b := by
  have e1 : ((PySem.W.clsIn K D).isSome && PySem.W.typeIn K (.ref D) == some (.type "type")) = true := by
    have h2 : (PySem.W.clsIn K D).isSome = true := ic
    rw [h2, ty]; rfl
  have e2 : (Value.ref C == Value.ref D) = false := by simp [ne]
  show (if (Value.ref C == Value.ref D) = true then some true else if ((PySem.W.clsIn K D).isSome && PySem.W.typeIn K (.ref D) == some (.type "type")) = true then PySem.W.subIn K (.ref C) (.ref D) else none) = some b
  rw [e2, if_neg Bool.false_ne_true, if_pos e1]
  exact hs
theorem kit_self {K : PySem.W.Frag} {C : Addr} : PySem.W.kitOne K (.ref C) (.ref C) = some true := by
  show (if (Value.ref C == Value.ref C) = true then some true else _) = some true
  rw [if_pos (by simp)]
end
/-! ### subscripts, equality of data -/
structure iW (X : Cx) (x y : V) (H : Hp) (Q : VK) : Prop where
  run : ∀ (value slice : Expr) pins s σ v u, Inv X pins σ H s → RelV x v → RelV y u → subscripted slice false v u = operate [v, u] (getItem v u) → wpAny (model X.prog X.w) X.A (subscriptTail value slice v u) (EP X pins σ Q) X.xe s
section
variable {X : Cx} {σ : L2.St} {H : Hp} {Q : VK} {pos p2 p3 : Pos} {a b : Expr} {x y v : V} {p : Addr} {xs : List V} {i : Int}
theorem e_ix (h : eW X a σ H fun x H1 => eW X b σ H1 fun y H2 => iW X x y H2 Q) (hs : PlainIx b := by exact fun _ _ => rfl) : eW X (.Subscript a b pos) σ H Q :=
  eI (pe_ix (r := iW X) (fun value slice pins s σ H x y v u Q I rx ry h hs => h.run value slice pins s σ v u I rx ry hs) PEw PEw hs) h
theorem iI {r : R2} (h : IxR X r) (q : r x y H Q) : iW X x y H Q := ⟨fun value slice pins s σ v u I rx ry hs => h value slice pins s σ H x y v u Q I rx ry q hs⟩
theorem i_lst (h : SqL X.K H p xs) (e : atI xs i = some v) (q : Q v H) : iW X (.ref p) (.int i) H Q := iI ix_list ⟨_, _, _, _, rfl, rfl, h, e, q⟩
theorem i_tup (h : SqT X.K H p xs) (e : atI xs i = some v) (q : Q v H) : iW X (.ref p) (.int i) H Q := iI ix_tup ⟨_, _, _, _, rfl, rfl, h, e, q⟩
theorem i_str {z : Str} {c : Nat} (hz : z.length ≤ sizeLine) (e : atI z.cps.toList i = some c) (q : Q (.str ⟨#[c]⟩) H) : iW X (.str z) (.int i) H Q := iI ix_str ⟨_, _, _, rfl, rfl, hz, e, q⟩
theorem o_eqD {d e : PyData} (hu : X.A.units + 64 < cLine) (hx : Dp X.K H x d) (hy : Dp X.K H y e) (sd : SeqAt.shaped d = true) (se : SeqAt.shaped e = true) (q : Q (.bl (PyData.eqv d e)) H) : oW X (compareOp .Eq) x y H Q := oI (op_eqD hu) ⟨d, e, hx, hy, sd, se, q⟩
theorem o_neD {d e : PyData} (hu : X.A.units + 64 < cLine) (hx : Dp X.K H x d) (hy : Dp X.K H y e) (sd : SeqAt.shaped d = true) (se : SeqAt.shaped e = true) (q : Q (.bl (!PyData.eqv d e)) H) : oW X (compareOp .NotEq) x y H Q := oI (op_neD hu) ⟨d, e, hx, hy, sd, se, q⟩
theorem k_min {j : Int} [cc : CxC X] (q : Q (.int (if j < i then j else i)) H) : kW X (.builtin "min") [.int i, .int j] H Q := kI (call_min2 cc.h) ⟨_, _, rfl, q⟩
theorem k_max {j : Int} [cc : CxC X] (q : Q (.int (if j > i then j else i)) H) : kW X (.builtin "max") [.int i, .int j] H Q := kI (call_max2 cc.h) ⟨_, _, rfl, q⟩
end
theorem atI_nat {α : Type} {xs : List α} {i : Int} {v : α} (h0 : 0 ≤ i) (h : xs[i.toNat]? = some v) : atI xs i = some v := by
  have hl := (List.getElem?_eq_some_iff.mp h).1
  unfold atI ixN
  rw [if_pos h0, if_pos (by omega)]
  exact h
theorem atI_all {α : Type} {xs : List α} {i : Int} {P : α → Prop} (h0 : 0 ≤ i) (h1 : i < xs.length) (hp : ∀ x ∈ xs, P x) : ∃ v, atI xs i = some v ∧ P v := by
  have hl : i.toNat < xs.length := by omega
  exact ⟨xs[i.toNat], atI_nat h0 (List.getElem?_eq_getElem hl), hp _ (List.getElem_mem hl)⟩
theorem TyB {K : PySem.W.Frag} {H : Hp} : (∀ i, TyX K H (.int i) (.type "int")) ∧ (∀ b, TyX K H (.bl b) (.type "bool")) ∧ (∀ z, TyX K H (.str z) (.type "str")) ∧ TyX K H .non (.type "NoneType") := ⟨fun _ => .base (.int _), fun _ => .base (.bl _), fun _ => .base (.str _), .base .non⟩
theorem TyL {K : PySem.W.Frag} {H : Hp} {p : Addr} {xs : List V} (h : H p = some (.lst xs)) : TyX K H (.ref p) (.type "list") := .base (.lst h)
theorem TyT {K : PySem.W.Frag} {H : Hp} {p : Addr} {xs : List V} (h : H p = some (.tup xs)) : TyX K H (.ref p) (.type "tuple") := .base (.tup h)
section
variable {X : Cx} {H : Hp} {Q : VK}
/-- isinstance of a value told by its type's name, of a built-in type -/
theorem k_isB {x : V} {t n : String} {b : Bool} (hx : TyX X.K H x (.type t)) (e : kitB t n = some b) (q : Q (.bl b) H) : kW X (.builtin "isinstance") [x, .ty n] H Q := k_isi (.ty n) hx (kit_ty e) q
end
theorem kb_int_int : kitB "int" "int" = some true := by decide +kernel
theorem kb_int_bool : kitB "int" "bool" = some false := by decide +kernel
theorem kb_bool_int : kitB "bool" "int" = some true := by decide +kernel
theorem kb_bool_bool : kitB "bool" "bool" = some true := by decide +kernel
theorem p60 : (10 : Int) ^ (60 : Int).toNat = 1000000000000000000000000000000000000000000000000000000000000 := by decide
theorem p30 : (10 : Int) ^ (30 : Int).toNat = 1000000000000000000000000000000 := by decide
section
variable {X : Cx} {H : Hp} {Q : VK}
theorem o_p60 (q : Q (.int 1000000000000000000000000000000000000000000000000000000000000) H) : oW X (binaryOp .Pow) (.int 10) (.int 60) H Q := oI op_pow ⟨_, _, rfl, rfl, ⟨by decide, by decide, by decide⟩, by show Q (.int ((10 : Int) ^ (60 : Int).toNat)) H; rw [p60]; exact q⟩
theorem o_p30 (q : Q (.int 1000000000000000000000000000000) H) : oW X (binaryOp .Pow) (.int 10) (.int 30) H Q := oI op_pow ⟨_, _, rfl, rfl, ⟨by decide, by decide, by decide⟩, by show Q (.int ((10 : Int) ^ (30 : Int).toNat)) H; rw [p30]; exact q⟩
end
/-- a new list, its heap by what is known of it -/
theorem e_lstN {X : Cx} {σ : L2.St} {H : Hp} {Q : VK} {pos : Pos} {es : List Expr} (h : aW X es σ H fun xs H1 => Nat.ble xs.length 1000 = true ∧ ∀ p H2, Same H1 H2 → H1 p = none → H2 p = some (.lst xs) → (∀ b, b ≠ p → H2 b = H1 b) → Q (.ref p) H2) : eW X (.List es pos) σ H Q :=
  e_lst ⟨fun pos pins s I => wpAny_mono (h.run pos pins s I) (fun us s' ⟨vs, H', a, b, c, d⟩ => ⟨vs, H', a, b, Nat.le_trans (Nat.le_of_ble_eq_true c) (by decide), fun p hp => d p _ (fun x o e => by rw [upd_ne (ne_of_none e hp)]; exact e) hp upd_same fun x hx => upd_ne hx⟩) fun _ _ x => x⟩
theorem e_tupN {X : Cx} {σ : L2.St} {H : Hp} {Q : VK} {pos : Pos} {es : List Expr} {k : Nat} (h : aW X es σ H fun xs H1 => Nat.ble xs.length 1000 = true ∧ ∀ p H2, Same H1 H2 → H1 p = none → H2 p = some (.tup xs) → (∀ b, b ≠ p → H2 b = H1 b) → Q (.ref p) H2) : eW X (.Tuple es k pos) σ H Q :=
  e_tup ⟨fun pos pins s I => wpAny_mono (h.run pos pins s I) (fun us s' ⟨vs, H', a, b, c, d⟩ => ⟨vs, H', a, b, Nat.le_trans (Nat.le_of_ble_eq_true c) (by decide), fun p hp => d p _ (fun x o e => by rw [upd_ne (ne_of_none e hp)]; exact e) hp upd_same fun x hx => upd_ne hx⟩) fun _ _ x => x⟩
section
variable {X : Cx} {H : Hp} {Q : VK} {p : Addr} {xs : List V} {z : Str}
theorem k_lenL (h : SqL X.K H p xs) (q : Q (.int (xs.length : Int)) H) : kW X (.builtin "len") [.ref p] H Q := kI call_len_seq ⟨_, _, rfl, .inl h, q⟩
theorem k_lenT (h : SqT X.K H p xs) (q : Q (.int (xs.length : Int)) H) : kW X (.builtin "len") [.ref p] H Q := kI call_len_seq ⟨_, _, rfl, .inr h, q⟩
theorem k_lenS (h : z.length ≤ sizeLine) (q : Q (.int (z.length : Int)) H) : kW X (.builtin "len") [.str z] H Q := kI call_len_str ⟨_, rfl, h, q⟩
end
theorem Same.made' {H : Hp} {x dx C : Addr} (nx : H x = Option.none) (nd : H dx = Option.none) : Same H (upd (upd H dx (.own x)) x (.ins C dx [])) := fun b o e => by
  rw [upd_ne (ne_of_none e nx), upd_ne (ne_of_none e nd)]
  exact e
def R_law (K : PySem.W.Frag) : V → Hp → VK → XK → Prop := fun x H Q _ => ∃ (a : Addr) (ns : List Int), x = .ref a ∧ SqL K H a (ns.map V.int) ∧ ns.length ≤ 63 ∧ ∀ H', Q (.bl true) H'
/-! ### targets that are tuples -/
structure hW (X : Cx) (es : List Expr) (vs : List V) (σ : L2.St) (H : Hp) (Q : L2.St → Hp → Prop) : Prop where
  run : ∀ pins s us, Inv X pins σ H s → Vals vs us → wpAny (model X.prog X.w) X.A (assignInOrder ((assignEach es X.env).map (·.2)) us) (fun _ s' => ∃ σ' H', Inv X pins σ' H' s' ∧ Q σ' H') X.xe s
section
variable {X : Cx} {σ : L2.St} {H : Hp} {pos : Pos} {e : Expr} {es : List Expr} {Q : L2.St → Hp → Prop}
theorem PHw : PGs X es (hW X es) := ⟨fun pins s _ _ vs us _ I r h => h.run pins s us I r⟩
theorem h_nil (h : Q σ H) : hW X [] [] σ H Q := ⟨fun pins s us I r => pgs_nil.run pins s σ H [] us Q I r ⟨rfl, h⟩⟩
theorem h_cons {v : V} {vs : List V} (h : gW X e v σ H fun σ1 H1 => hW X es vs σ1 H1 Q) (hs : (assignEach (e :: es) X.env).map (·.2) = assign e X.env :: (assignEach es X.env).map (·.2) := by rfl) : hW X (e :: es) (v :: vs) σ H Q :=
  ⟨fun pins s us I r => (pgs_cons PGw PHw hs).run pins s σ H (v :: vs) us Q I r ⟨v, vs, rfl, h⟩⟩
theorem g_tup {k n : Nat} {v : V} [cc : CxC X] (h : ∃ a xs, v = .ref a ∧ SqT X.K H a xs ∧ xs.length = n ∧ hW X es xs σ H Q)
    (hn : (assignEach es X.env).length = n := by rfl) (hst : (assignEach es X.env).findIdx? (·.1) = none := by rfl) : gW X (.Tuple es k pos) v σ H Q := gI (pg_tup cc.h PHw hn hst) h
end
def oV : Option Int → V
  | none => .non
  | some i => .int i
theorem TyO {K : PySem.W.Frag} {H : Hp} : TyX K H .non (.type "NoneType") := .base .non
/-! ### what is walked; for and comprehensions over any walk -/
structure jW (X : Cx) (tg it : Expr) (σ : L2.St) (H : Hp) (R : It → Hp → Prop) : Prop where
  run : ∀ pins s, Inv X pins σ H s → wpAny (model X.prog X.w) X.A (eval it X.env) (fun v s1 => wpAny (model X.prog X.w) X.A (pyIter v) (PIE X pins σ tg R) X.xe s1) X.xe s
structure mW (X : Cx) (id : String) (x : V) (xs : List V) (H : Hp) (Q : VK) : Prop where
  run : ∀ pins s σ v us, Inv X pins σ H s → RelV x v → Vals xs us → wpAny (model X.prog X.w) X.A (call (.builtin id) (v :: us)) (EP X pins σ Q) X.xe s
structure nW (X : Cx) (x : V) (lo hi : Option Int) (H : Hp) (Q : VK) : Prop where
  run : ∀ pins s σ v vl vu sl, Inv X pins σ H s → RelV x v → s.heap.IsSliceOf sl vl vu .none → IsPart vl lo → IsPart vu hi →
    ∃ T id, typeLookup (.type T) "__getitem__" = pure (some (.builtin id)) ∧ s.TypeIs v T ∧ wpAny (model X.prog X.w) X.A (getItem v (.ref sl)) (EP X pins σ Q) X.xe s
section
variable {X : Cx} {σ : L2.St} {H : Hp} {Q : VK} {D : Ends} {pos p2 p3 p4 p5 apos : Pos} {e o it tg elt c a b : Expr} {es : List Expr} {body : List Stmt} {R : It → Hp → Prop} {mg : Str → Option Value}
theorem PJw : PI X tg it (jW X tg it) := ⟨fun pins s _ _ _ I h => h.run pins s I⟩
theorem jI {wi : TI} (h : PI X tg it wi) (q : wi σ H R) : jW X tg it σ H R := ⟨fun pins s I => h.run pins s σ H R I q⟩
theorem MRw {id : String} : MtR X id (mW X id) := fun pins s σ H x xs v us Q I rx r h => h.run pins s σ v us I rx r
theorem mI {id : String} {r : V → List V → Hp → VK → Prop} {x : V} {xs : List V} (h : MtR X id r) (q : r x xs H Q) : mW X id x xs H Q := ⟨fun pins s σ v us I rx rs => h pins s σ H x xs v us Q I rx rs q⟩
theorem NRw : SlR X (nW X) := fun pins s σ H x v vl vu lo hi sl Q I rx h1 h2 h3 q => q.run pins s σ v vl vu sl I rx h1 h2 h3
theorem nI {r : V → Option Int → Option Int → Hp → VK → Prop} {x : V} {lo hi : Option Int} (h : SlR X r) (q : r x lo hi H Q) : nW X x lo hi H Q := ⟨fun pins s σ v vl vu sl I rx h1 h2 h3 => h pins s σ H x v vl vu lo hi sl Q I rx h1 h2 h3 q⟩
theorem j_list (h : eW X it σ H fun x H1 => ∃ a, x = .ref a ∧ (∃ xs, SqL X.K H1 a xs) ∧ R (Itl X.K a) H1) : jW X tg it σ H R := jI (pi_list PEw) h
theorem j_tup (h : eW X it σ H fun x H1 => ∃ a, x = .ref a ∧ (∃ xs, SqT X.K H1 a xs) ∧ R (Itt X.K a) H1) : jW X tg it σ H R := jI (pi_tup PEw) h
theorem j_str (h : eW X it σ H fun x H1 => ∃ z, x = .str z ∧ R (Its z) H1) : jW X tg it σ H R := jI (pi_str PEw) h
theorem j_rng1 [cm : CxM X mg] [g : Gn mg "range" none] (h : aW X [a] σ H fun vs H1 => ∃ j : Int, vs = [.int j] ∧ -(2 ^ 62) ≤ j ∧ j < 2 ^ 62 ∧ R (Itr 0 j.toNat) H1) (hg : Gl X "range" := by rfl) (hs : starEach [a] X.env = [(false, eval a X.env)] := by rfl) : jW X tg (.Call (.Name "range" p2) [a] [] pos) σ H R :=
  jI (pi_range1 hg (by rw [cm.h]; exact g.h) PAw hs) h
theorem j_rng2 [cm : CxM X mg] [g : Gn mg "range" none] (h : aW X [a, b] σ H fun vs H1 => ∃ i j : Int, vs = [.int i, .int j] ∧ (-(2 ^ 62) ≤ i ∧ i < 2 ^ 62 ∧ -(2 ^ 62) ≤ j ∧ j < 2 ^ 62) ∧ R (Itr i (j - i).toNat) H1) (hg : Gl X "range" := by rfl)
    (hs : starEach [a, b] X.env = [(false, eval a X.env), (false, eval b X.env)] := by rfl) (hs2 : starEach [b] X.env = [(false, eval b X.env)] := by rfl) : jW X tg (.Call (.Name "range" p2) [a, b] [] pos) σ H R :=
  jI (pi_range2 hg (by rw [cm.h]; exact g.h) PAw hs hs2) h
theorem j_rng3 [cm : CxM X mg] [g : Gn mg "range" none] (h : aW X [a, b, c] σ H fun vs H1 => ∃ (i j c : Int) (n : Nat), vs = [.int i, .int j, .int c] ∧ RgC i j c n ∧ R (Itc i c n) H1) (hg : Gl X "range" := by rfl)
    (hs : starEach [a, b, c] X.env = (false, eval a X.env) :: starEach [b, c] X.env := by rfl) (hpl : (backTo pos (starEach [b, c] X.env)).any (·.1) = false := by rfl) : jW X tg (.Call (.Name "range" p2) [a, b, c] [] pos) σ H R :=
  jI (pi_range3 hg (by rw [cm.h]; exact g.h) PAw hs hpl) h
theorem j_rev [cm : CxM X mg] [g : Gn mg "reversed" none] (h : aW X [a] σ H fun vs H1 => ∃ (a : Addr) (xs : List V), vs = [.ref a] ∧ SqL X.K H1 a xs ∧ R (Itv X.K a xs.length) H1) (hg : Gl X "reversed" := by rfl) (hs : starEach [a] X.env = [(false, eval a X.env)] := by rfl) : jW X tg (.Call (.Name "reversed" p2) [a] [] pos) σ H R :=
  jI (pi_reversed hg (by rw [cm.h]; exact g.h) PAw hs) h
theorem j_enum {elts : List Expr} {kk : Nat} [cm : CxM X mg] [g : Gn mg "enumerate" none] (h : aW X [a] σ H fun vs H1 => ∃ a xs, vs = [.ref a] ∧ SqL X.K H1 a xs ∧ R (Ite X.K a) H1) (hg : Gl X "enumerate" := by rfl) (hs : starEach [a] X.env = [(false, eval a X.env)] := by rfl) : jW X (.Tuple elts kk p3) (.Call (.Name "enumerate" p2) [a] [] pos) σ H R :=
  jI (pi_enum hg (by rw [cm.h]; exact g.h) PAw hs) h
theorem j_items {elts : List Expr} {kk : Nat} (h : eW X e σ H fun x H1 => ∃ d o kvs, x = .ref d ∧ H1 d = some (.frz o (.dK kvs)) ∧ R (Iti d o kvs) H1) (hbase : attributeBase e "items" X.env (eval e X.env) = eval e X.env := by rfl) (hline : (apos.endLine == pos.line) = true := by rfl) :
    jW X (.Tuple elts kk p3) (.Call (.Attribute e "items" apos) [] [] pos) σ H R := jI (pi_items PEw hbase hline) h
/-- for over any walk -/
theorem s_for [ow : CxO X] [cc : CxC X] (h : jW X tg it σ H fun J H1 => ∃ n G Y, Walk J n G Y ∧ ∃ Pv : Nat → L2.St → Hp → Prop, Pv 0 σ H1 ∧ (∀ i σ' H', i ≤ n → Pv i σ' H' → G H') ∧
      (∀ i x σ' H' H2, i < n → Pv i σ' H' → Y i H' x H2 → gW X tg x σ' H2 fun σ3 H3 => bW X body { D with nx := Pv (i + 1), ct := Pv (i + 1), bk := D.nx } σ3 H3) ∧ ∀ σ' H', Pv n σ' H' → D.nx σ' H')
    (hs : ∀ x, foldedSetIterable it X.env x = pure x := by intro _; rfl) : sW X (.For tg it body [] pos) D σ H :=
  sI (ps_for ow.h cc.h PJw PGw PBw hs) ⟨fun pins s I => wpAny_mono (h.run pins s I) (fun v s1 q => wpAny_mono q (fun u s2 ⟨i, fp, tn, J, H2, e, I2, T, t0, f2, n, G, Y, w, Pv, q0, q1, q2, q3⟩ => ⟨i, fp, tn, J, H2, e, I2, T, t0, f2, for_it w Pv q0 q1 q2 q3⟩) fun _ _ z => z) fun _ _ z => z⟩
/-- the parts of a comprehension, in every context of its block -/
def eB (X : Cx) (sc : Scope) (e : Expr) : TE := fun σ H Q => ∀ (s : Shared) (H0 : Hp) (C : Addr) (cl : List (Str × Addr)) (fp : List Addr), eW (X.blk s H0 sc (compEnvC sc cl C X.env) fp) e σ H Q
def tB' (X : Cx) (sc : Scope) (e : Expr) : TT := fun σ H Q => ∀ (s : Shared) (H0 : Hp) (C : Addr) (cl : List (Str × Addr)) (fp : List Addr), tW (X.blk s H0 sc (compEnvC sc cl C X.env) fp) e σ H Q
def gB (X : Cx) (sc : Scope) (e : Expr) : TG := fun v σ H Q => ∀ (s : Shared) (H0 : Hp) (C : Addr) (cl : List (Str × Addr)) (fp : List Addr), gW (X.blk s H0 sc (compEnvC sc cl C X.env) fp) e v σ H Q
theorem e_lc {sc : Scope} {N : List Str} {own : List (Str × Nat)} [cc : CxC X] [cn : CxN X N] [nd : NdN N] (ok : BlkOk N X.env.scope sc own)
    (h : jW X tg it σ H fun J H1 => ∃ n G Y, Walk J n G Y ∧ ∀ D, H1 D = none → ∃ Pv : Nat → Hp → Prop, Pv 0 (upd H1 D (.lst [])) ∧ (∀ i H', i ≤ n → Pv i H' → G H') ∧
      (∀ i x H' H2, i < n → Pv i H' → Y i H' x H2 → gB X sc tg x (wipe σ (own.map (·.2))) H2 fun σ3 H3 => wipe σ3 (own.map (·.2)) = wipe σ (own.map (·.2)) ∧ eB X sc elt σ3 H3 fun y H4 => ∃ acc, H4 D = some (.lst acc) ∧ acc.length < sizeLine ∧ Pv (i + 1) (upd H4 D (.lst (acc ++ [y])))) ∧
      ∀ H', Pv n H' → Q (.ref D) H') (hs : ∀ x, foldedSetIterable it X.env x = pure x := by intro _; rfl) : eW X (.ListComp elt [⟨tg, it, [], 0⟩] sc pos) σ H Q :=
  eI (pe_lc (g := gB X sc tg) (tt := tYes) (te := eB X sc elt) cc.h (by rw [cn.h]; exact nd.h) PJw (by rw [cn.h]; exact ok) (fun s H0 C cl fp => ⟨fun pins s' _ _ v u _ I r h => (h s H0 C cl fp).run pins s' u I r⟩) (fun _ _ _ _ _ => pts_nil) (fun s H0 C cl fp => ⟨fun pins s' _ _ _ I h => (h s H0 C cl fp).run pins s' I⟩) hs)
    ⟨fun pins s I => wpAny_mono (h.run pins s I) (fun v s1 q => wpAny_mono q (fun u s2 ⟨i, fp, tn, J, H2, e, I2, T, t0, f2, n, G, Y, w, k⟩ => ⟨i, fp, tn, J, H2, e, I2, T, t0, f2, fun D hD => by
      obtain ⟨Pv, q0, q1, q2, q3⟩ := k D hD
      exact lc_it w Pv q0 q1 (fun i x H' H2' hi p y s0 H0 C cl fp => ⟨fun pins s' u I r => wpAny_mono ((q2 i x H' H2' hi p y s0 H0 C cl fp).run pins s' u I r) (fun _ s'' ⟨σ', H'', I'', e1, e2⟩ => ⟨σ', H'', I'', e1, e2⟩) fun _ _ z => z⟩) q3⟩) fun _ _ z => z) fun _ _ z => z⟩
/-- .. with one if -/
theorem e_lcI {sc : Scope} {N : List Str} {own : List (Str × Nat)} [cc : CxC X] [cn : CxN X N] [nd : NdN N] (ok : BlkOk N X.env.scope sc own)
    (h : jW X tg it σ H fun J H1 => ∃ n G Y, Walk J n G Y ∧ ∀ D, H1 D = none → ∃ Pv : Nat → Hp → Prop, Pv 0 (upd H1 D (.lst [])) ∧ (∀ i H', i ≤ n → Pv i H' → G H') ∧
      (∀ i x H' H2, i < n → Pv i H' → Y i H' x H2 → gB X sc tg x (wipe σ (own.map (·.2))) H2 fun σ3 H3 => wipe σ3 (own.map (·.2)) = wipe σ (own.map (·.2)) ∧ tB' X sc c σ3 H3 fun k H4 => if k = true then eB X sc elt σ3 H4 fun y H5 => ∃ acc, H5 D = some (.lst acc) ∧ acc.length < sizeLine ∧ Pv (i + 1) (upd H5 D (.lst (acc ++ [y]))) else Pv (i + 1) H4) ∧
      ∀ H', Pv n H' → Q (.ref D) H') (hs : ∀ x, foldedSetIterable it X.env x = pure x := by intro _; rfl) : eW X (.ListComp elt [⟨tg, it, [c], 0⟩] sc pos) σ H Q :=
  eI (pe_lc (g := gB X sc tg) (tt := tB' X sc c) (te := eB X sc elt) cc.h (by rw [cn.h]; exact nd.h) PJw (by rw [cn.h]; exact ok) (fun s H0 C cl fp => ⟨fun pins s' _ _ v u _ I r h => (h s H0 C cl fp).run pins s' u I r⟩) (fun s H0 C cl fp => pts_one ⟨fun pins s' _ _ _ I h => (h s H0 C cl fp).run pins s' I⟩) (fun s H0 C cl fp => ⟨fun pins s' _ _ _ I h => (h s H0 C cl fp).run pins s' I⟩) hs)
    ⟨fun pins s I => wpAny_mono (h.run pins s I) (fun v s1 q => wpAny_mono q (fun u s2 ⟨i, fp, tn, J, H2, e, I2, T, t0, f2, n, G, Y, w, k⟩ => ⟨i, fp, tn, J, H2, e, I2, T, t0, f2, fun D hD => by
      obtain ⟨Pv, q0, q1, q2, q3⟩ := k D hD
      exact lc_it w Pv q0 q1 q2 q3⟩) fun _ _ z => z) fun _ _ z => z⟩
/-- name = [..] whose place is stored from within -/
theorem s_setLc {sc : Scope} {N : List Str} {own : List (Str × Nat)} {y : Str} {i : Nat} [cc : CxC X] [cn : CxN X N] [sl : Slt N y i] [nd : NdN N] (ok : BlkOk N X.env.scope sc own)
    (h : jW X tg it σ H fun J H1 => ∃ n G Y, Walk J n G Y ∧ ∀ D', H1 D' = none → ∃ Pv : Nat → Hp → Prop, Pv 0 (upd H1 D' (.lst [])) ∧ (∀ i H', i ≤ n → Pv i H' → G H') ∧
      (∀ i x H' H2, i < n → Pv i H' → Y i H' x H2 → gB X sc tg x (wipe σ (own.map (·.2))) H2 fun σ3 H3 => wipe σ3 (own.map (·.2)) = wipe σ (own.map (·.2)) ∧ eB X sc elt σ3 H3 fun y H4 => ∃ acc, H4 D' = some (.lst acc) ∧ acc.length < sizeLine ∧ Pv (i + 1) (upd H4 D' (.lst (acc ++ [y])))) ∧
      ∀ H', Pv n H' → D.nx (σ.set i (some (.ref D'))) H') (hyl : X.env.scope.names.lookup y = some .local := by rfl)
    (hsw : swapsWith (.ListComp elt [⟨tg, it, [], 0⟩] sc pos) (some (.Name y p2)) p3.line X.env = pure true := by exact sw_true rfl rfl rfl (by decide +kernel)) (hs : ∀ x, foldedSetIterable it X.env x = pure x := by intro _; rfl) : sW X (.Assign [.Name y p2] (.ListComp elt [⟨tg, it, [], 0⟩] sc pos) p3) D σ H :=
  sI (ps_setLc (i := i) (g := gB X sc tg) (tt := tYes) (te := eB X sc elt) cc.h (by rw [cn.h]; exact nd.h) (by rw [cn.h]; exact sl.h) hyl hsw PJw (by rw [cn.h]; exact ok) (fun s H0 C cl fp => ⟨fun pins s' _ _ v u _ I r h => (h s H0 C cl fp).run pins s' u I r⟩) (fun _ _ _ _ _ => pts_nil) (fun s H0 C cl fp => ⟨fun pins s' _ _ _ I h => (h s H0 C cl fp).run pins s' I⟩) hs)
    ⟨fun pins s I => wpAny_mono (h.run pins s I) (fun v s1 q => wpAny_mono q (fun u s2 ⟨j, fp, tn, J, H2, e, I2, T, t0, f2, n, G, Y, w, k⟩ => ⟨j, fp, tn, J, H2, e, I2, T, t0, f2, fun D' hD => by
      obtain ⟨Pv, q0, q1, q2, q3⟩ := k D' hD
      exact lc_it w Pv q0 q1 (fun i x H' H2' hi p y s0 H0 C cl fp => ⟨fun pins s' u I r => wpAny_mono ((q2 i x H' H2' hi p y s0 H0 C cl fp).run pins s' u I r) (fun _ s'' ⟨σ', H'', I'', e1, e2⟩ => ⟨σ', H'', I'', e1, e2⟩) fun _ _ z => z⟩) q3⟩) fun _ _ z => z) fun _ _ z => z⟩
/-- name = [.. if ..] whose place is stored from within -/
theorem s_setLcI {sc : Scope} {N : List Str} {own : List (Str × Nat)} {y : Str} {i : Nat} [cc : CxC X] [cn : CxN X N] [sl : Slt N y i] [nd : NdN N] (ok : BlkOk N X.env.scope sc own)
    (h : jW X tg it σ H fun J H1 => ∃ n G Y, Walk J n G Y ∧ ∀ D', H1 D' = none → ∃ Pv : Nat → Hp → Prop, Pv 0 (upd H1 D' (.lst [])) ∧ (∀ i H', i ≤ n → Pv i H' → G H') ∧
      (∀ i x H' H2, i < n → Pv i H' → Y i H' x H2 → gB X sc tg x (wipe σ (own.map (·.2))) H2 fun σ3 H3 => wipe σ3 (own.map (·.2)) = wipe σ (own.map (·.2)) ∧ tB' X sc c σ3 H3 fun k H4 => if k = true then eB X sc elt σ3 H4 fun y H5 => ∃ acc, H5 D' = some (.lst acc) ∧ acc.length < sizeLine ∧ Pv (i + 1) (upd H5 D' (.lst (acc ++ [y]))) else Pv (i + 1) H4) ∧
      ∀ H', Pv n H' → D.nx (σ.set i (some (.ref D'))) H') (hyl : X.env.scope.names.lookup y = some .local := by rfl)
    (hsw : swapsWith (.ListComp elt [⟨tg, it, [c], 0⟩] sc pos) (some (.Name y p2)) p3.line X.env = pure true := by exact sw_true rfl rfl rfl (by decide +kernel)) (hs : ∀ x, foldedSetIterable it X.env x = pure x := by intro _; rfl) : sW X (.Assign [.Name y p2] (.ListComp elt [⟨tg, it, [c], 0⟩] sc pos) p3) D σ H :=
  sI (ps_setLc (i := i) (g := gB X sc tg) (tt := tB' X sc c) (te := eB X sc elt) cc.h (by rw [cn.h]; exact nd.h) (by rw [cn.h]; exact sl.h) hyl hsw PJw (by rw [cn.h]; exact ok) (fun s H0 C cl fp => ⟨fun pins s' _ _ v u _ I r h => (h s H0 C cl fp).run pins s' u I r⟩) (fun s H0 C cl fp => pts_one ⟨fun pins s' _ _ _ I h => (h s H0 C cl fp).run pins s' I⟩) (fun s H0 C cl fp => ⟨fun pins s' _ _ _ I h => (h s H0 C cl fp).run pins s' I⟩) hs)
    ⟨fun pins s I => wpAny_mono (h.run pins s I) (fun v s1 q => wpAny_mono q (fun u s2 ⟨j, fp, tn, J, H2, e, I2, T, t0, f2, n, G, Y, w, k⟩ => ⟨j, fp, tn, J, H2, e, I2, T, t0, f2, fun D' hD => by
      obtain ⟨Pv, q0, q1, q2, q3⟩ := k D' hD
      exact lc_it w Pv q0 q1 q2 q3⟩) fun _ _ z => z) fun _ _ z => z⟩
/-! ### slices -/
structure pW (X : Cx) (e : Option Expr) (σ : L2.St) (H : Hp) (Q : Option Int → Hp → Prop) : Prop where
  run : ∀ pins s, Inv X pins σ H s → wpAny (model X.prog X.w) X.A (evalPart e X.env) (fun u s' => ∃ o H', Inv X pins σ H' s' ∧ IsPart u o ∧ Q o H') X.xe s
theorem p_none {R : Option Int → Hp → Prop} (h : R none H) : pW X none σ H R := ⟨fun pins s I => by
  have z := (po_none (X := X)).run pins s σ H R I h
  exact wpAny_mono z (fun u s' ⟨o, H', a, b, c⟩ => ⟨o, H', a, b, c⟩) fun _ _ z => z⟩
theorem p_some {R : Option Int → Hp → Prop} (h : eW X e σ H fun v H1 => ∃ i, v = .int i ∧ R (some i) H1) : pW X (some e) σ H R := ⟨fun pins s I => by
  have z := (po_some (X := X) (PEw (e := e))).run pins s σ H R I h
  exact wpAny_mono z (fun u s' ⟨o, H', a, b, c⟩ => ⟨o, H', a, b, c⟩) fun _ _ z => z⟩
theorem POw {e : Option Expr} : PO X e (pW X e) := ⟨fun pins s _ _ _ I h => h.run pins s I⟩
theorem e_slice {lo hi : Option Expr} (h : eW X e σ H fun x H1 => pW X lo σ H1 fun l H2 => pW X hi σ H2 fun u H3 => nW X x l u H3 Q) : eW X (.Subscript e (.Slice lo hi none p2) pos) σ H Q := eI (pe_slice NRw PEw POw POw) h
theorem n_str {z : Str} {lo hi : Option Int} (hz : z.length ≤ sizeLine) (q : Q (.str (cutS z lo hi)) H) : nW X (.str z) lo hi H Q := nI sl_str ⟨z, rfl, hz, q⟩
theorem n_lst {p : Addr} {xs : List V} {lo hi : Option Int} (h : SqL X.K H p xs) (q : ∀ l H2, Same H H2 → H l = none → H2 l = some (.lst (cutV xs lo hi)) → (∀ b, b ≠ l → H2 b = H b) → Q (.ref l) H2) : nW X (.ref p) lo hi H Q :=
  nI sl_list ⟨p, xs, rfl, h, fun l hl => q l _ (fun x o e => by rw [upd_ne (ne_of_none e hl)]; exact e) hl upd_same fun x hx => upd_ne hx⟩
/-! ### methods of built-in types -/
theorem e_bm {T id : String} {name : Str} (pa : PlainAttrs T) (slot : Slot T name id) (hty : typeOf (.builtin id) = pure (.type "method_descriptor")) (h : eW X o σ H fun x H1 => tyV X.K T x H1 ∧ aW X (e :: es) σ H1 fun xs H2 => mW X id x xs H2 Q)
    (hbase : attributeBase o name X.env (eval o X.env) = eval o X.env := by rfl)
    (hfew : ((backTo pos (starEach (e :: es) X.env)).all (fun x => !x.1) && (backToKw pos (keywordEach [] X.env)).all (fun x => x.1.isSome) && decide ((e :: es).length + ([] : List Keyword).length + (if ([] : List Keyword).isEmpty then 0 else 1) < 30)) = true := by rfl)
    (hline : (apos.endLine == pos.line) = true := by rfl) (hs : starEach (e :: es) X.env = (false, eval e X.env) :: starEach es X.env := by rfl) (hplain : (backTo pos (starEach es X.env)).any (·.1) = false := by rfl) : eW X (.Call (.Attribute o name apos) (e :: es) [] pos) σ H Q :=
  eI (pe_bm pa slot hty MRw PEw PAw hbase hfew hline hs hplain) h
theorem e_bm0 {T id : String} {name : Str} (pa : PlainAttrs T) (slot : Slot T name id) (hty : typeOf (.builtin id) = pure (.type "method_descriptor")) (h : eW X o σ H fun x H1 => tyV X.K T x H1 ∧ mW X id x [] H1 Q)
    (hbase : attributeBase o name X.env (eval o X.env) = eval o X.env := by rfl) (hline : (apos.endLine == pos.line) = true := by rfl) : eW X (.Call (.Attribute o name apos) [] [] pos) σ H Q := eI (pe_bm0 pa slot hty MRw PEw hbase hline) h
theorem m_append {l : Addr} {xs : List V} {y : V} (h : H l = some (.lst xs)) (hz : xs.length < 100000) (q : ∀ H2, H2 l = some (.lst (xs ++ [y])) → (∀ b, b ≠ l → H2 b = H b) → Q .non H2) : mW X "list.append" (.ref l) [y] H Q :=
  mI mt_append ⟨l, xs, y, rfl, rfl, h, Nat.lt_of_lt_of_le hz (by decide), q _ upd_same fun b hb => upd_ne hb⟩
theorem m_extend {l b : Addr} {xs zs : List V} (h : H l = some (.lst xs)) (h2 : H b = some (.lst zs)) (hz : xs.length + zs.length ≤ 100000) (q : ∀ H2, H2 l = some (.lst (xs ++ zs)) → (∀ b, b ≠ l → H2 b = H b) → Q .non H2) : mW X "list.extend" (.ref l) [.ref b] H Q :=
  mI mt_extend ⟨l, b, xs, zs, rfl, rfl, h, h2, Nat.le_trans hz (by decide), q _ upd_same fun b hb => upd_ne hb⟩
theorem m_pop {l : Addr} {xs : List V} {y : V} (h : H l = some (.lst (xs ++ [y]))) (q : ∀ H2, H2 l = some (.lst xs) → (∀ b, b ≠ l → H2 b = H b) → Q y H2) : mW X "list.pop" (.ref l) [] H Q :=
  mI mt_pop ⟨l, _, y, rfl, rfl, h, by simp, q _ (by rw [List.dropLast_concat]; exact upd_same) fun b hb => upd_ne hb⟩
theorem m_reverse {l : Addr} {xs : List V} (h : H l = some (.lst xs)) (q : ∀ H2, H2 l = some (.lst xs.reverse) → (∀ b, b ≠ l → H2 b = H b) → Q .non H2) : mW X "list.reverse" (.ref l) [] H Q :=
  mI mt_reverse ⟨l, _, rfl, rfl, h, q _ upd_same fun b hb => upd_ne hb⟩
theorem e_append (h : eW X o σ H fun x H1 => tyV X.K "list" x H1 ∧ aW X [e] σ H1 fun xs H2 => mW X "list.append" x xs H2 Q) (hbase : attributeBase o "append" X.env (eval o X.env) = eval o X.env := by rfl)
    (hfew : ((backTo pos (starEach [e] X.env)).all (fun x => !x.1) && (backToKw pos (keywordEach [] X.env)).all (fun x => x.1.isSome) && decide ([e].length + ([] : List Keyword).length + (if ([] : List Keyword).isEmpty then 0 else 1) < 30)) = true := by rfl)
    (hline : (apos.endLine == pos.line) = true := by rfl) (hs : starEach [e] X.env = (false, eval e X.env) :: starEach [] X.env := by rfl) : eW X (.Call (.Attribute o "append" apos) [e] [] pos) σ H Q :=
  e_bm PySem.F.plainAttrs_list PySem.F.slot_list_append PySem.F.type_list_append h hbase hfew hline hs rfl
theorem e_extend (h : eW X o σ H fun x H1 => tyV X.K "list" x H1 ∧ aW X [e] σ H1 fun xs H2 => mW X "list.extend" x xs H2 Q) (hbase : attributeBase o "extend" X.env (eval o X.env) = eval o X.env := by rfl)
    (hfew : ((backTo pos (starEach [e] X.env)).all (fun x => !x.1) && (backToKw pos (keywordEach [] X.env)).all (fun x => x.1.isSome) && decide ([e].length + ([] : List Keyword).length + (if ([] : List Keyword).isEmpty then 0 else 1) < 30)) = true := by rfl)
    (hline : (apos.endLine == pos.line) = true := by rfl) (hs : starEach [e] X.env = (false, eval e X.env) :: starEach [] X.env := by rfl) : eW X (.Call (.Attribute o "extend" apos) [e] [] pos) σ H Q :=
  e_bm PySem.F.plainAttrs_list PySem.F.slot_list_extend PySem.F.type_list_extend h hbase hfew hline hs rfl
theorem e_pop (h : eW X o σ H fun x H1 => tyV X.K "list" x H1 ∧ mW X "list.pop" x [] H1 Q) (hbase : attributeBase o "pop" X.env (eval o X.env) = eval o X.env := by rfl) (hline : (apos.endLine == pos.line) = true := by rfl) : eW X (.Call (.Attribute o "pop" apos) [] [] pos) σ H Q :=
  e_bm0 PySem.F.plainAttrs_list PySem.F.slot_list_pop PySem.F.type_list_pop h hbase hline
theorem e_reverse (h : eW X o σ H fun x H1 => tyV X.K "list" x H1 ∧ mW X "list.reverse" x [] H1 Q) (hbase : attributeBase o "reverse" X.env (eval o X.env) = eval o X.env := by rfl) (hline : (apos.endLine == pos.line) = true := by rfl) : eW X (.Call (.Attribute o "reverse" apos) [] [] pos) σ H Q :=
  e_bm0 PySem.F.plainAttrs_list PySem.F.slot_list_reverse PySem.F.type_list_reverse h hbase hline
theorem ty_l {K : PySem.W.Frag} {p : Addr} {xs : List V} (h : H p = some (.lst xs)) : tyV K "list" (.ref p) H := .inl ⟨rfl, _, SqL.of h⟩
theorem e_join (h : eW X o σ H fun x H1 => (∃ a, x = .str a) ∧ eW X e σ H1 fun y H2 => mW X "str.join" x [y] H2 Q) (hs : starEach [e] X.env = [(false, eval e X.env)] := by rfl) (hbase : attributeBase o "join" X.env (eval o X.env) = eval o X.env := by rfl) (hline : (apos.endLine == pos.line) = true := by rfl) : eW X (.Call (.Attribute o "join" apos) [e] [] pos) σ H Q :=
  eI (pe_m1 PySem.F.slot_str_join PySem.F.type_str_join MRw PEw PEw hs hbase hline) h
theorem e_split (h : eW X o σ H fun x H1 => (∃ a, x = .str a) ∧ eW X e σ H1 fun y H2 => mW X "str.split" x [y] H2 Q) (hs : starEach [e] X.env = [(false, eval e X.env)] := by rfl) (hbase : attributeBase o "split" X.env (eval o X.env) = eval o X.env := by rfl) (hline : (apos.endLine == pos.line) = true := by rfl) : eW X (.Call (.Attribute o "split" apos) [e] [] pos) σ H Q :=
  eI (pe_m1 PySem.F.slot_str_split PySem.F.type_str_split MRw PEw PEw hs hbase hline) h
end
section
variable {X : Cx} {H : Hp} {Q : VK} {i j : Int} {z u : Str} {p : Addr} {xs : List V}
theorem o_leS (q : Q (.bl (!decide (tl u < tl z))) H) : oW X (compareOp .LtE) (.str z) (.str u) H Q := oI op_le_str ⟨_, _, rfl, rfl, q⟩
theorem o_ltS (q : Q (.bl (decide (tl z < tl u))) H) : oW X (compareOp .Lt) (.str z) (.str u) H Q := oI op_lt_str ⟨_, _, rfl, rfl, q⟩
theorem o_inC {c : Nat} (q : Q (.bl (decide (c ∈ tl z))) H) : oW X (compareOp .In) (.str ⟨#[c]⟩) (.str z) H Q := oI op_in_sign ⟨_, _, rfl, rfl, q⟩
theorem o_niC {c : Nat} (q : Q (.bl (!decide (c ∈ tl z))) H) : oW X (compareOp .NotIn) (.str ⟨#[c]⟩) (.str z) H Q := oI op_notIn_sign ⟨_, _, rfl, rfl, q⟩
theorem k_ordC {c : Nat} (q : Q (.int (c : Int)) H) : kW X (.builtin "ord") [.str ⟨#[c]⟩] H Q := kI call_ord ⟨_, rfl, rfl, q⟩
theorem k_strI (h : i.natAbs.log2 < 1920) (q : Q (.str (Str.ofString (toString i))) H) : kW X (.type "str") [.int i] H Q := kI call_str_int ⟨_, rfl, h, q⟩
theorem k_intS (h : PySem.intText? z = some i) (hz : z.length ≤ 640) (q : Q (.int i) H) : kW X (.type "int") [.str z] H Q := kI call_int_str ⟨_, _, rfl, h, hz, q⟩
theorem k_listL (h : SqL X.K H p xs ∨ SqT X.K H p xs) (q : ∀ l H2, Same H H2 → H l = none → H2 l = some (.lst xs) → (∀ b, b ≠ l → H2 b = H b) → Q (.ref l) H2) : kW X (.type "list") [.ref p] H Q :=
  kI call_list_of ⟨_, _, rfl, h, fun l hl => q l _ (fun x o e => by rw [upd_ne (ne_of_none e hl)]; exact e) hl upd_same fun x hx => upd_ne hx⟩
theorem k_tupL (h : SqL X.K H p xs) (q : ∀ l H2, Same H H2 → H l = none → H2 l = some (.tup xs) → (∀ b, b ≠ l → H2 b = H b) → Q (.ref l) H2) : kW X (.type "tuple") [.ref p] H Q :=
  kI call_tuple_of ⟨_, _, rfl, .inl ⟨h, fun l hl => q l _ (fun x o e => by rw [upd_ne (ne_of_none e hl)]; exact e) hl upd_same fun x hx => upd_ne hx⟩⟩
theorem o_catL {q2 : Addr} {zs : List V} (h1 : H p = some (.lst xs)) (h2 : H q2 = some (.lst zs)) (hz : xs.length + zs.length ≤ 100000) (q : ∀ l H2, Same H H2 → H l = none → H2 l = some (.lst (xs ++ zs)) → (∀ b, b ≠ l → H2 b = H b) → Q (.ref l) H2) : oW X (binaryOp .Add) (.ref p) (.ref q2) H Q :=
  oI op_cat ⟨_, _, _, _, rfl, rfl, h1, h2, Nat.le_trans hz (by decide), fun l hl => q l _ (fun x o e => by rw [upd_ne (ne_of_none e hl)]; exact e) hl upd_same fun x hx => upd_ne hx⟩
theorem m_join {ys : List Str} {a : Str} (h : SqL X.K H p (ys.map V.str) ∨ SqT X.K H p (ys.map V.str)) (hz : (ys.map Str.length).sum + ys.length * a.length ≤ 16777216) (q : Q (.str (Txt.join a ys)) H) : mW X "str.join" (.str a) [.ref p] H Q := by
  exact mI mt_join ⟨_, _, _, rfl, rfl, h, hz, q⟩
theorem m_split {a b : Str} (hb : (b.length == 0) = false) (ha : a.length ≤ 1000000) (q : ∀ l H2, Same H H2 → H l = none → H2 l = some (.lst ((Txt.split a b).map V.str)) → (∀ b, b ≠ l → H2 b = H b) → Q (.ref l) H2) : mW X "str.split" (.str a) [.str b] H Q :=
  mI mt_split ⟨_, _, rfl, rfl, hb, by rw [sizeLine_eq]; omega, fun l hl => q l _ (fun x o e => by rw [upd_ne (ne_of_none e hl)]; exact e) hl upd_same fun x hx => upd_ne hx⟩
end
/-! ### things of any kind -/
mutual
inductive Th (K : PySem.W.Frag) (H : Hp) : V → PyData → Prop
  | non : Th K H .non .none
  | bl (b : Bool) : Th K H (.bl b) (.bool b)
  | int (i : Int) : Th K H (.int i) (.int i)
  | str (x : Str) (h : x.length ≤ 1000000) : Th K H (.str x) (.str x)
  | lst {a : Addr} {xs : List V} {ds : List PyData} : SqL K H a xs → ThAll K H xs ds → Th K H (.ref a) (.list ds)
  | tup {a : Addr} {xs : List V} {ds : List PyData} : SqT K H a xs → ThAll K H xs ds → Th K H (.ref a) (.tuple ds)
  | dct {a : Addr} {kvs : List (Key × V)} : H a = some (.dK kvs) → Th K H (.ref a) (.dict [])
inductive ThAll (K : PySem.W.Frag) (H : Hp) : List V → List PyData → Prop
  | nil : ThAll K H [] []
  | cons {v : V} {vs : List V} {d : PyData} {ds : List PyData} : Th K H v d → ThAll K H vs ds → ThAll K H (v :: vs) (d :: ds)
end
def tyName : PyData → String
  | .none => "NoneType"
  | .bool _ => "bool"
  | .int _ => "int"
  | .str _ => "str"
  | .list _ => "list"
  | .tuple _ => "tuple"
  | .dict _ => "dict"
theorem Th.ty {K : PySem.W.Frag} {H : Hp} {v : V} {d : PyData} (h : Th K H v d) : TyX K H v (.type (tyName d)) := by
  cases h with
  | non => exact .base .non
  | bl b => exact .base (.bl b)
  | int i => exact .base (.int i)
  | str x _ => exact .base (.str x)
  | lst hs _ =>
    rcases hs with (h | ⟨o, h⟩) | ⟨o, its, n, h, hc, _⟩
    · exact .base (.lst h)
    · exact .base (.frz h)
    · exact .kList h hc
  | tup hs _ =>
    rcases hs with (h | ⟨o, h⟩) | ⟨o, its, n, h, hc, _⟩
    · exact .base (.tup h)
    · exact .fTuple h
    · exact .kTuple h hc
  | dct h => exact .base (.dK h)
/-- whether data is of the built-in type -/
def isK (d : PyData) (n : String) : Bool := match d with
  | .none => false
  | .bool _ => n == "bool" || n == "int"
  | .int _ => n == "int"
  | .str _ => n == "str"
  | .list _ => n == "list"
  | .tuple _ => n == "tuple"
  | .dict _ => n == "dict"
theorem kitTh (d : PyData) : kitB (tyName d) "str" = some (isK d "str") ∧ kitB (tyName d) "int" = some (isK d "int") ∧ kitB (tyName d) "bool" = some (isK d "bool") ∧ kitB (tyName d) "list" = some (isK d "list") ∧ kitB (tyName d) "tuple" = some (isK d "tuple") ∧ kitB (tyName d) "dict" = some (isK d "dict") := by
  cases d <;> (simp only [tyName, isK]; decide +kernel)
section
variable {X : Cx} {H : Hp} {Q : VK} {v : V} {d : PyData}
theorem k_isStr (h : Th X.K H v d) (q : Q (.bl (isK d "str")) H) : kW X (.builtin "isinstance") [v, .ty "str"] H Q := k_isB h.ty (kitTh d).1 q
theorem k_isInt (h : Th X.K H v d) (q : Q (.bl (isK d "int")) H) : kW X (.builtin "isinstance") [v, .ty "int"] H Q := k_isB h.ty (kitTh d).2.1 q
theorem k_isBool (h : Th X.K H v d) (q : Q (.bl (isK d "bool")) H) : kW X (.builtin "isinstance") [v, .ty "bool"] H Q := k_isB h.ty (kitTh d).2.2.1 q
theorem k_isList (h : Th X.K H v d) (q : Q (.bl (isK d "list")) H) : kW X (.builtin "isinstance") [v, .ty "list"] H Q := k_isB h.ty (kitTh d).2.2.2.1 q
theorem k_isTuple (h : Th X.K H v d) (q : Q (.bl (isK d "tuple")) H) : kW X (.builtin "isinstance") [v, .ty "tuple"] H Q := k_isB h.ty (kitTh d).2.2.2.2.1 q
theorem k_isDict (h : Th X.K H v d) (q : Q (.bl (isK d "dict")) H) : kW X (.builtin "isinstance") [v, .ty "dict"] H Q := k_isB h.ty (kitTh d).2.2.2.2.2 q
end
/-- what is tracked stands so in a greater heap -/
theorem sq_more {K : PySem.W.Frag} {H H' : Hp} {a : Addr} {xs : List V} (s : Same H H') (h : SqT K H a xs) : SqT K H' a xs := by
  rcases h with (h | ⟨o, h⟩) | h
  · exact .inl (.inl (s _ _ h))
  · exact .inl (.inr ⟨o, s _ _ h⟩)
  · exact .inr h
mutual
theorem Th.more {K : PySem.W.Frag} {H H' : Hp} (s : Same H H') : ∀ (d : PyData) (v : V), Th K H v d → Th K H' v d
  | .none, _, h => by cases h; exact .non
  | .bool _, _, h => by cases h; exact .bl _
  | .int _, _, h => by cases h; exact .int _
  | .str _, _, h => by cases h with | str _ h => exact .str _ h
  | .list ds, _, h => by cases h with | lst hs ha => exact .lst (s.seq hs) (ThAll.more s ds _ ha)
  | .tuple ds, _, h => by cases h with | tup hs ha => exact .tup (sq_more s hs) (ThAll.more s ds _ ha)
  | .dict _, _, h => by cases h with | dct hd => exact .dct (s _ _ hd)
theorem ThAll.more {K : PySem.W.Frag} {H H' : Hp} (s : Same H H') : ∀ (ds : List PyData) (vs : List V), ThAll K H vs ds → ThAll K H' vs ds
  | [], _, h => by cases h; exact .nil
  | d :: ds, _, h => by cases h with | cons h1 h2 => exact .cons (Th.more s d _ h1) (ThAll.more s ds _ h2)
end
theorem ThAll.len {K : PySem.W.Frag} {H : Hp} : ∀ {vs : List V} {ds : List PyData}, ThAll K H vs ds → vs.length = ds.length
  | _, _, .nil => rfl
  | _, _, .cons _ h => congrArg (· + 1) h.len
theorem ThAll.get {K : PySem.W.Frag} {H : Hp} : ∀ {vs : List V} {ds : List PyData} {i : Nat} {v : V}, ThAll K H vs ds → vs[i]? = some v → ∃ d, ds[i]? = some d ∧ Th K H v d
  | _, _, _, _, .nil, e => by simp at e
  | _, _, 0, _, .cons h _, e => by simp at e; subst e; exact ⟨_, rfl, h⟩
  | _, _, i + 1, v, .cons _ t, e => by
    obtain ⟨d, h1, h2⟩ := ThAll.get (i := i) (v := v) t (by simpa using e)
    exact ⟨d, by simpa using h1, h2⟩
theorem all_snoc {α : Type} {p : α → Bool} {l : List α} {i : Nat} {x : α} (h : l[i]? = some x) : (l.take (i + 1)).all p = ((l.take i).all p && p x) := by
  have hl := (List.getElem?_eq_some_iff.mp h).1
  have e := (List.getElem?_eq_some_iff.mp h).2
  rw [← List.take_append_getElem hl, List.all_append, e]
  simp
theorem all_cut {α : Type} {p : α → Bool} {l : List α} {i : Nat} {x : α} (h : l[i]? = some x) (hx : p x = false) : l.all p = false := by
  have hm := List.mem_of_getElem? h
  cases e : l.all p with
  | false => rfl
  | true => rw [List.all_eq_true.mp e x hm] at hx; cases hx
theorem sz1m {n : Nat} (h : n ≤ 1000000) : n ≤ sizeLine := Nat.le_trans h (by decide)
theorem lt1 (a b : Nat) : ([a] < [b]) ↔ a < b := by simp [List.cons_lt_cons_iff]
section
variable {X : Cx} {σ : L2.St} {H : Hp} {Q : VK} {D : Ends} {pos p2 p3 p4 p5 : Pos} {it tg elt c : Expr}
/-- a comprehension whose elements are told one by one and track nothing that a turn could change -/
theorem e_lcM {sc : Scope} {N : List Str} {own : List (Str × Nat)} [cc : CxC X] [cn : CxN X N] [nd : NdN N] (ok : BlkOk N X.env.scope sc own)
    (h : jW X tg it σ H fun J H1 => ∃ n G Y, Walk J n G Y ∧ ∃ ys : List V, ys.length = n ∧ ys.length ≤ 100000 ∧ (∀ H', Same H1 H' → G H') ∧
      (∀ i x H' H2, i < n → Same H1 H' → Y i H' x H2 → Same H' H2 ∧ gB X sc tg x (wipe σ (own.map (·.2))) H2 fun σ3 H3 => wipe σ3 (own.map (·.2)) = wipe σ (own.map (·.2)) ∧ Same H2 H3 ∧ eB X sc elt σ3 H3 fun y H4 => ys[i]? = some y ∧ Same H3 H4) ∧
      ∀ l H', Same H1 H' → H1 l = none → H' l = some (.lst ys) → Q (.ref l) H') (hs : ∀ x, foldedSetIterable it X.env x = pure x := by intro _; rfl) : eW X (.ListComp elt [⟨tg, it, [], 0⟩] sc pos) σ H Q := by
  refine e_lc ok ⟨fun pins s I => wpAny_mono (h.run pins s I) (fun v s1 q => wpAny_mono q (fun u s2 ⟨i, fp, tn, J, H2, e, I2, T, t0, f2, n, G, Y, w, ys, hl, hn, q1, q2, q3⟩ => ⟨i, fp, tn, J, H2, e, I2, T, t0, f2, n, G, Y, w, fun D' hD => ⟨fun i H' => Same H2 H' ∧ H' D' = some (.lst (ys.take i)), ⟨fun b o e => by rw [upd_ne (ne_of_none e hD)]; exact e, upd_same⟩, fun _ _ _ p => q1 _ p.1, fun i x H' H3 hi p y s0 H0 C cl fp => ?_, fun H' p => q3 D' H' p.1 hD (by rw [p.2, ← hl, List.take_length])⟩⟩) fun _ _ z => z) fun _ _ z => z⟩ hs
  obtain ⟨k1, k2⟩ := q2 i x H' H3 hi p.1 y
  refine ⟨fun pins s' u I r => wpAny_mono ((k2 s0 H0 C cl fp).run pins s' u I r) (fun _ s'' ⟨σ', H'', I'', e1, e2, e3⟩ => ⟨σ', H'', I'', e1, fun s0 H0 C cl fp => ⟨fun pins s' I => wpAny_mono ((e3 s0 H0 C cl fp).run pins s' I) (fun u s4 ⟨v4, H4, I4, r4, ev, e4⟩ => ⟨v4, H4, I4, r4, ys.take i, e4 _ _ (e2 _ _ (k1 _ _ p.2)), ?_, ?_, ?_⟩) fun _ _ z => z⟩⟩) fun _ _ z => z⟩
  · rw [List.length_take]
    exact Nat.lt_of_le_of_lt (Nat.min_le_left _ _) (Nat.lt_of_lt_of_le (Nat.lt_of_lt_of_le (hl ▸ hi) hn) (by decide))
  · intro b o e
    rw [upd_ne (ne_of_none e hD)]
    exact e4 _ _ (e2 _ _ (k1 _ _ (p.1 _ _ e)))
  · rw [upd_same]
    have q := (List.getElem?_eq_some_iff.mp ev).1
    rw [← List.take_append_getElem q, (List.getElem?_eq_some_iff.mp ev).2]
/-- a comprehension whose elements are told by a word of the turn and the element -/
theorem e_lcP {sc : Scope} {N : List Str} {own : List (Str × Nat)} [cc : CxC X] [cn : CxN X N] [nd : NdN N] (ok : BlkOk N X.env.scope sc own) (Pr : Nat → V → Prop)
    (h : jW X tg it σ H fun J H1 => ∃ n G Y, Walk J n G Y ∧ n ≤ 100000 ∧ (∀ H', Same H1 H' → G H') ∧
      (∀ i x H' H2, i < n → Same H1 H' → Y i H' x H2 → Same H' H2 ∧ gB X sc tg x (wipe σ (own.map (·.2))) H2 fun σ3 H3 => wipe σ3 (own.map (·.2)) = wipe σ (own.map (·.2)) ∧ Same H2 H3 ∧ eB X sc elt σ3 H3 fun y H4 => Pr i y ∧ Same H3 H4) ∧
      ∀ l H' ys, Same H1 H' → H1 l = none → H' l = some (.lst ys) → ys.length = n → (∀ i y, ys[i]? = some y → Pr i y) → Q (.ref l) H') (hs : ∀ x, foldedSetIterable it X.env x = pure x := by intro _; rfl) : eW X (.ListComp elt [⟨tg, it, [], 0⟩] sc pos) σ H Q := by
  refine e_lc ok ⟨fun pins s I => wpAny_mono (h.run pins s I) (fun v s1 q => wpAny_mono q (fun u s2 ⟨i, fp, tn, J, H2, e, I2, T, t0, f2, n, G, Y, w, hn, q1, q2, q3⟩ => ⟨i, fp, tn, J, H2, e, I2, T, t0, f2, n, G, Y, w, fun D' hD => ⟨fun i H' => Same H2 H' ∧ ∃ acc, H' D' = some (.lst acc) ∧ acc.length = i ∧ ∀ j z, acc[j]? = some z → Pr j z, ⟨fun b o e => by rw [upd_ne (ne_of_none e hD)]; exact e, [], upd_same, rfl, by simp⟩, fun _ _ _ p => q1 _ p.1, fun i x H' H3 hi p y s0 H0 C cl fp => ?_, fun H' p => by
    obtain ⟨p1, acc, p2, p3, p4⟩ := p
    exact q3 D' H' acc p1 hD p2 p3 p4⟩⟩) fun _ _ z => z) fun _ _ z => z⟩ hs
  obtain ⟨k1, k2⟩ := q2 i x H' H3 hi p.1 y
  obtain ⟨p1, acc, p2, p3, p4⟩ := p
  refine ⟨fun pins s' u I r => wpAny_mono ((k2 s0 H0 C cl fp).run pins s' u I r) (fun _ s'' ⟨σ', H'', I'', e1, e2, e3⟩ => ⟨σ', H'', I'', e1, fun s0 H0 C cl fp => ⟨fun pins s' I => wpAny_mono ((e3 s0 H0 C cl fp).run pins s' I) (fun u s4 ⟨v4, H4, I4, r4, ev, e4⟩ => ⟨v4, H4, I4, r4, acc, e4 _ _ (e2 _ _ (k1 _ _ p2)), ?_, ?_, acc ++ [v4], upd_same, ?_, ?_⟩) fun _ _ z => z⟩⟩) fun _ _ z => z⟩
  · rw [p3]
    exact Nat.lt_of_lt_of_le (Nat.lt_of_lt_of_le hi hn) (by decide)
  · intro b o e
    rw [upd_ne (ne_of_none e hD)]
    exact e4 _ _ (e2 _ _ (k1 _ _ (p1 _ _ e)))
  · rw [List.length_append, p3]; rfl
  · intro j z hz
    by_cases hj : j < i
    · rw [List.getElem?_append_left (by omega)] at hz
      exact p4 j z hz
    · rw [List.getElem?_append_right (by omega), p3] at hz
      have hj2 : j = i := by
        have := (List.getElem?_eq_some_iff.mp hz).1
        simp at this
        omega
      subst hj2
      simp at hz
      rw [← hz]
      exact ev
theorem s_setLcP {sc : Scope} {N : List Str} {own : List (Str × Nat)} {y : Str} {i : Nat} [cc : CxC X] [cn : CxN X N] [sl : Slt N y i] [nd : NdN N] (ok : BlkOk N X.env.scope sc own) (Pr : Nat → V → Prop)
    (h : jW X tg it σ H fun J H1 => ∃ n G Y, Walk J n G Y ∧ n ≤ 100000 ∧ (∀ H', Same H1 H' → G H') ∧
      (∀ i x H' H2, i < n → Same H1 H' → Y i H' x H2 → Same H' H2 ∧ gB X sc tg x (wipe σ (own.map (·.2))) H2 fun σ3 H3 => wipe σ3 (own.map (·.2)) = wipe σ (own.map (·.2)) ∧ Same H2 H3 ∧ eB X sc elt σ3 H3 fun y H4 => Pr i y ∧ Same H3 H4) ∧
      ∀ l H' ys, Same H1 H' → H1 l = none → H' l = some (.lst ys) → ys.length = n → (∀ i y, ys[i]? = some y → Pr i y) → D.nx (σ.set i (some (.ref l))) H') (hyl : X.env.scope.names.lookup y = some .local := by rfl)
    (hsw : swapsWith (.ListComp elt [⟨tg, it, [], 0⟩] sc pos) (some (.Name y p2)) p3.line X.env = pure true := by exact sw_true rfl rfl rfl (by decide +kernel)) (hs : ∀ x, foldedSetIterable it X.env x = pure x := by intro _; rfl) : sW X (.Assign [.Name y p2] (.ListComp elt [⟨tg, it, [], 0⟩] sc pos) p3) D σ H := by
  refine s_setLc ok ⟨fun pins s I => wpAny_mono (h.run pins s I) (fun v s1 q => wpAny_mono q (fun u s2 ⟨i, fp, tn, J, H2, e, I2, T, t0, f2, n, G, Y, w, hn, q1, q2, q3⟩ => ⟨i, fp, tn, J, H2, e, I2, T, t0, f2, n, G, Y, w, fun D' hD => ⟨fun i H' => Same H2 H' ∧ ∃ acc, H' D' = some (.lst acc) ∧ acc.length = i ∧ ∀ j z, acc[j]? = some z → Pr j z, ⟨fun b o e => by rw [upd_ne (ne_of_none e hD)]; exact e, [], upd_same, rfl, by simp⟩, fun _ _ _ p => q1 _ p.1, fun i x H' H3 hi p y s0 H0 C cl fp => ?_, fun H' p => by
    obtain ⟨p1, acc, p2, p3, p4⟩ := p
    exact q3 D' H' acc p1 hD p2 p3 p4⟩⟩) fun _ _ z => z) fun _ _ z => z⟩ hyl hsw hs
  obtain ⟨k1, k2⟩ := q2 i x H' H3 hi p.1 y
  obtain ⟨p1, acc, p2, p3, p4⟩ := p
  refine ⟨fun pins s' u I r => wpAny_mono ((k2 s0 H0 C cl fp).run pins s' u I r) (fun _ s'' ⟨σ', H'', I'', e1, e2, e3⟩ => ⟨σ', H'', I'', e1, fun s0 H0 C cl fp => ⟨fun pins s' I => wpAny_mono ((e3 s0 H0 C cl fp).run pins s' I) (fun u s4 ⟨v4, H4, I4, r4, ev, e4⟩ => ⟨v4, H4, I4, r4, acc, e4 _ _ (e2 _ _ (k1 _ _ p2)), ?_, ?_, acc ++ [v4], upd_same, ?_, ?_⟩) fun _ _ z => z⟩⟩) fun _ _ z => z⟩
  · rw [p3]
    exact Nat.lt_of_lt_of_le (Nat.lt_of_lt_of_le hi hn) (by decide)
  · intro b o e
    rw [upd_ne (ne_of_none e hD)]
    exact e4 _ _ (e2 _ _ (k1 _ _ (p1 _ _ e)))
  · rw [List.length_append, p3]; rfl
  · intro j z hz
    by_cases hj : j < i
    · rw [List.getElem?_append_left (by omega)] at hz
      exact p4 j z hz
    · rw [List.getElem?_append_right (by omega), p3] at hz
      have hj2 : j = i := by
        have := (List.getElem?_eq_some_iff.mp hz).1
        simp at this
        omega
      subst hj2
      simp at hz
      rw [← hz]
      exact ev
/-- raise X('..') -/
theorem s_raise {x m : Str} {C : Addr} {j : Nat} {W : WX} [cc : CxC X] [ct : CxT X W] (T : ExcF X.K X.mg x C) (h : W (.ref C) none σ H) (hg : Gl X x := by rfl) (hdb : (x == ("__debug__" : Str)) = false := by decide) : sW X (.Raise (some (.Call (.Name x p2) [.Constant (.str m) j p3] [] p4)) none pos) D σ H :=
  sI (ps_raise cc.h ct.h (pmk_own PySem.F.excBase_ValueError T.ex T.mg T.kp (raises_own T.be T.ty) hg hdb)) h
end
theorem range_map {α β : Type} (f : α → β) (d : β) : ∀ (l : List α), (List.range l.length).map (fun i => (l[i]?.map f).getD d) = l.map f
  | [] => rfl
  | a :: l => by
    rw [List.length_cons, List.range_succ_eq_map, List.map_cons, List.map_map, List.map_cons, ← range_map f d l]
    simp [Function.comp_def]
theorem sIx_nn (n d : Nat) {i : Int} (h : 0 ≤ i) : HT.sIx n d (some i) = min i.toNat n := by
  show (if i < 0 then (i + (n : Int)).toNat else min i.toNat n) = _
  rw [if_neg (by omega)]
theorem cutL_from {α : Type} (xs : List α) {n : Nat} (hn : xs.length = n) {i : Int} (h : 0 ≤ i) : (xs.drop (HT.sIx n 0 (some i))).take (HT.sIx n n none - HT.sIx n 0 (some i)) = xs.drop i.toNat := by
  rw [sIx_nn _ _ h, HT.sIx_none, ← hn]
  by_cases k : i.toNat ≤ xs.length
  · rw [Nat.min_eq_left k, List.take_of_length_le (by rw [List.length_drop]; omega)]
  · rw [Nat.min_eq_right (by omega), List.drop_length, List.drop_of_length_le (by omega)]
    simp
theorem cutL_to {α : Type} (xs : List α) {n : Nat} (hn : xs.length = n) {i : Int} (h : 0 ≤ i) : (xs.drop (HT.sIx n 0 none)).take (HT.sIx n n (some i) - HT.sIx n 0 none) = xs.take i.toNat := by
  rw [sIx_nn _ _ h, HT.sIx_none, ← hn, List.drop_zero, Nat.sub_zero]
  by_cases k : i.toNat ≤ xs.length
  · rw [Nat.min_eq_left k]
  · rw [Nat.min_eq_right (by omega), List.take_length, List.take_of_length_le (by omega)]
theorem cutL_mid {α : Type} (xs : List α) {n : Nat} (hn : xs.length = n) {i j : Int} (h : 0 ≤ i) (h2 : i ≤ j) : (xs.drop (HT.sIx n 0 (some i))).take (HT.sIx n n (some j) - HT.sIx n 0 (some i)) = (xs.drop i.toNat).take (j.toNat - i.toNat) := by
  rw [sIx_nn _ _ h, sIx_nn _ _ (by omega), ← hn]
  by_cases k : i.toNat ≤ xs.length
  · rw [Nat.min_eq_left k]
    by_cases k2 : j.toNat ≤ xs.length
    · rw [Nat.min_eq_left k2]
    · rw [Nat.min_eq_right (by omega), List.take_of_length_le (by rw [List.length_drop]; omega), List.take_of_length_le (by rw [List.length_drop]; omega)]
  · rw [Nat.min_eq_right (a := i.toNat) (by omega), List.drop_length, List.drop_of_length_le (by omega)]
    simp
theorem cutV_from (xs : List V) {i : Int} (h : 0 ≤ i) : cutV xs (some i) none = xs.drop i.toNat := cutL_from xs rfl h
theorem cutV_to (xs : List V) {i : Int} (h : 0 ≤ i) : cutV xs none (some i) = xs.take i.toNat := cutL_to xs rfl h
theorem cutV_mid (xs : List V) {i j : Int} (h : 0 ≤ i) (h2 : i ≤ j) : cutV xs (some i) (some j) = (xs.drop i.toNat).take (j.toNat - i.toNat) := cutL_mid xs rfl h h2
theorem cutS_from (z : Str) {i : Int} (h : 0 ≤ i) : tl (cutS z (some i) none) = (tl z).drop i.toNat := cutL_from (tl z) (len_tl z).symm h
theorem cutS_to (z : Str) {i : Int} (h : 0 ≤ i) : tl (cutS z none (some i)) = (tl z).take i.toNat := cutL_to (tl z) (len_tl z).symm h
theorem cutS_mid (z : Str) {i j : Int} (h : 0 ≤ i) (h2 : i ≤ j) : tl (cutS z (some i) (some j)) = ((tl z).drop i.toNat).take (j.toNat - i.toNat) := cutL_mid (tl z) (len_tl z).symm h h2

/-! ### data that == may be asked of -/
structure Sh (k : Nat) (d : PyData) : Prop where
  can : d.canLay0 = true
  dep : d.depth ≤ k
theorem Sh.int {k : Nat} (i : Int) : Sh k (.int i) := ⟨rfl, Nat.zero_le _⟩
theorem Sh.bl {k : Nat} (i : Bool) : Sh k (.bool i) := ⟨rfl, Nat.zero_le _⟩
theorem Sh.non {k : Nat} : Sh k .none := ⟨rfl, Nat.zero_le _⟩
theorem Sh.str {k : Nat} {z : Str} (h : ∀ c ∈ tl z, c < 1114112) : Sh k (.str z) := ⟨by
  show z.cps.all (· < 0x110000) = true
  rw [← Array.all_toList]
  exact List.all_eq_true.mpr fun c hc => decide_eq_true (h c hc), Nat.zero_le _⟩
theorem can_all : ∀ {ds : List PyData}, (∀ d ∈ ds, d.canLay0 = true) → PyData.canLayAll0 ds = true
  | [], _ => rfl
  | d :: ds, h => by
    show (d.canLay0 && PyData.canLayAll0 ds) = true
    rw [h d (List.mem_cons_self ..), can_all fun x hx => h x (List.mem_cons_of_mem _ hx)]
    rfl
theorem depth_all {k : Nat} : ∀ {ds : List PyData}, (∀ d ∈ ds, d.depth ≤ k) → PyData.depthAll ds ≤ k
  | [], _ => Nat.zero_le _
  | d :: ds, h => by
    show max d.depth (PyData.depthAll ds) ≤ k
    exact Nat.max_le.mpr ⟨h d (List.mem_cons_self ..), depth_all fun x hx => h x (List.mem_cons_of_mem _ hx)⟩
theorem Sh.lst {k : Nat} {ds : List PyData} (h : ∀ d ∈ ds, Sh k d) : Sh (k + 1) (.list ds) := ⟨can_all fun d hd => (h d hd).can, Nat.succ_le_succ (depth_all fun d hd => (h d hd).dep)⟩
theorem Sh.tup {k : Nat} {ds : List PyData} (h : ∀ d ∈ ds, Sh k d) : Sh (k + 1) (.tuple ds) := ⟨can_all fun d hd => (h d hd).can, Nat.succ_le_succ (depth_all fun d hd => (h d hd).dep)⟩
theorem Sh.ok {k : Nat} {d : PyData} (h : Sh k d) (hk : k ≤ 64 := by decide) : SeqAt.shaped d = true := by
  show (d.canLay0 && decide (d.depth ≤ 64)) = true
  rw [h.can, decide_eq_true (Nat.le_trans h.dep hk)]
  rfl
theorem Sh.refl {k : Nat} {d : PyData} (h : Sh k d) : PyData.eqv d d = true := SeqAt.eqv_refl d h.can
theorem dp_strs {K : PySem.W.Frag} {H : Hp} : ∀ (l : List Str), DpAll K H (l.map V.str) (l.map PyData.str)
  | [] => .nil
  | z :: l => .cons (.str z) (dp_strs l)
theorem dp_ints {K : PySem.W.Frag} {H : Hp} : ∀ (l : List Int), DpAll K H (l.map V.int) (l.map PyData.int)
  | [] => .nil
  | z :: l => .cons (.int z) (dp_ints l)

/-! ### what kind of goal stands here -/
/-- a word of one value, once for all that follows -/
theorem eVia {X : Cx} {e : Expr} {σ : L2.St} {H : Hp} {Q : VK} (v : V) (h1 : ∀ Q' : VK, Q' v H → eW X e σ H Q') (h2 : Q v H) : eW X e σ H Q := h1 Q h2
/-- .., where the heap may grow -/
theorem eViaS {X : Cx} {e : Expr} {σ : L2.St} {H : Hp} {Q : VK} (P : V → Hp → Prop) (h1 : ∀ Q' : VK, (∀ v H', P v H' → Q' v H') → eW X e σ H Q') (h2 : ∀ v H', P v H' → Q v H') : eW X e σ H Q := h1 Q h2
theorem oMono {X : Cx} {f : Value → Value → Sem Value} {x y : V} {H : Hp} {Q Q' : VK} (h : oW X f x y H Q) (i : ∀ v H', Q v H' → Q' v H') : oW X f x y H Q' := ⟨fun pins s σ v u I rx ry => wpAny_mono (h.run pins s σ v u I rx ry) (fun _ _ ⟨v, H', a, b, c⟩ => ⟨v, H', a, b, i v H' c⟩) fun _ _ x => x⟩
theorem e_chainJ {X : Cx} {σ : L2.St} {H : Hp} {Q : VK} {pos : Pos} {a b c : Expr} {op op' : CmpOp} {d : Bool} (h : eW X a σ H fun x H1 => eW X b σ H1 fun y H2 => oW X (compareOp op) x y H2 fun z H3 => ∃ k, z = .bl k ∧ (k = true → ∀ Q' : VK, Q' (.bl d) H3 → eW X c σ H3 (fun w' H4 => oW X (compareOp op') y w' H4 Q')) ∧ Q (.bl (k && d)) H3)
    (hm : lastMarks [op, op'] [b, c] = false := by with_unfolding_all rfl) : eW X (.Compare a [op, op'] [b, c] pos) σ H Q :=
  e_chain (eMono h fun x H1 h1 => eMono h1 fun y H2 h2 => oMono h2 fun z H3 ⟨k, e, h3, q⟩ => ⟨k, e, by
    cases k with
    | true => exact iteT (h3 rfl _ q)
    | false => exact iteF q⟩) hm
theorem e_neg {X : Cx} {a : Expr} {σ : L2.St} {H : Hp} {Q : VK} {pos : Pos} (h : eW X a σ H fun x H1 => ∃ i, x = .int i ∧ Q (.int (-i)) H1) : eW X (.UnaryOp .USub a pos) σ H Q := e_un (eMono h fun x H1 ⟨i, e, q⟩ => by subst e; exact u_neg q)
/-- a test of one truth, once for all that follows -/
theorem tVia {X : Cx} {e : Expr} {σ : L2.St} {H : Hp} {R : Bool → Hp → Prop} (b : Bool) (P : Hp → Prop) (h1 : ∀ R' : Bool → Hp → Prop, (∀ H', P H' → R' b H') → tW X e σ H R') (h2 : ∀ H', P H' → R b H') : tW X e σ H R := h1 R h2
/-! ### dict displays -/
theorem sameU {H : Hp} {p : Addr} {o : HO} (hp : H p = none) : Same H (upd H p o) := fun x u e => by rw [upd_ne (ne_of_none e hp)]; exact e
section
variable {X : Cx} {σ : L2.St} {H : Hp} {Q : VK} {pos : Pos} {a b : Expr}
theorem e_dct0 (h : ∀ p H2, Same H H2 → H p = none → H2 p = some (.dK []) → (∀ b, b ≠ p → H2 b = H b) → Q (.ref p) H2) : eW X (.Dict [] [] pos) σ H Q :=
  eI pe_dnewK fun p hp => h p _ (sameU hp) hp upd_same fun _ hb => upd_ne hb
theorem e_dct1 (h : ∀ p H', Same H H' → H p = none → H' p = some (.dK []) → (∀ b, b ≠ p → H' b = H b) → eW X a σ H' fun x H1 => eW X b σ H1 fun y H2 => H2 p = some (.dK []) ∧ ∃ k : Key, x = kV k ∧ ∀ H3, H3 p = some (.dK (mergeK [] [(k, y)])) → (∀ b, b ≠ p → H3 b = H2 b) → Q (.ref p) H3) : eW X (.Dict [some a] [b] pos) σ H Q :=
  eI (pe_disp (pps_cons PEw PEw pps_nil) rfl rfl (fun z => nomatch z) (Nat.le_of_ble_eq_true rfl)) fun p hp => eMono (h p _ (sameU hp) hp upd_same fun _ hb => upd_ne hb) fun x H1 h1 => eMono h1 fun y H2 ⟨e, k, ek, q⟩ => ⟨e, [(k, y)], by rw [ek]; rfl, Nat.le_of_ble_eq_true rfl, q _ upd_same fun _ hb => upd_ne hb⟩
end
/-! ### tuples: parts and sums; dicts -/
/-- all that is a tuple stays -/
def TS (H H' : Hp) : Prop := ∀ b xs, H b = some (.tup xs) → H' b = some (.tup xs)
theorem TS.refl (H : Hp) : TS H H := fun _ _ h => h
theorem TS.trans {H H1 H2 : Hp} (a : TS H H1) (b : TS H1 H2) : TS H H2 := fun c o h => b c o (a c o h)
theorem Same.ts {H H' : Hp} (s : Same H H') : TS H H' := fun _ _ h => s _ _ h
/-- a list's or dict's place is stored anew: tuples stay -/
theorem TS.but {H H' : Hp} {l : Addr} {o : HO} (h : H l = some o) (hn : ∀ xs, o ≠ .tup xs) (k : ∀ b, b ≠ l → H' b = H b) : TS H H' := fun b xs e => by
  rw [k b fun z => hn xs (by rw [z, h] at e; exact Option.some.inj e)]
  exact e
theorem TS.butL {H H' : Hp} {l : Addr} {ys : List V} (h : H l = some (.lst ys)) (k : ∀ b, b ≠ l → H' b = H b) : TS H H' := TS.but h (fun _ z => nomatch z) k
theorem TS.butD {H H' : Hp} {l : Addr} {ys : List (Key × V)} (h : H l = some (.dK ys)) (k : ∀ b, b ≠ l → H' b = H b) : TS H H' := TS.but h (fun _ z => nomatch z) k
section
variable {X : Cx} {σ : L2.St} {H : Hp} {Q : VK} {pos p2 : Pos} {p q : Addr} {xs ys : List V} {lo hi : Option Int}
theorem n_tup (h : H p = some (.tup xs)) (k : ∀ t H2, Same H H2 → H2 t = some (.tup (cutV xs lo hi)) → Q (.ref t) H2) : nW X (.ref p) lo hi H Q :=
  nI sl_tupA ⟨p, xs, rfl, SqT.of h, fun ⟨e1, e2⟩ => k p H (Same.refl _) (by
    have e : cutV xs lo hi = xs := by
      unfold cutV
      rw [e1, e2, List.drop_zero, Nat.sub_zero, List.take_length]
    rw [e]; exact h), fun _ t ht => k t _ (sameU ht) upd_same⟩
theorem o_catT (h1 : H p = some (.tup xs)) (h2 : H q = some (.tup ys)) (hz : xs.length + ys.length ≤ 100000) (k : ∀ t H2, Same H H2 → H2 t = some (.tup (xs ++ ys)) → Q (.ref t) H2) : oW X (binaryOp .Add) (.ref p) (.ref q) H Q :=
  oI op_catA ⟨p, q, xs, ys, rfl, rfl, SqT.of h1, SqT.of h2, Nat.le_trans hz (by decide), fun e => k q H (Same.refl _) (by rw [e]; exact h2), fun _ e => k p H (Same.refl _) (by rw [e, List.append_nil]; exact h1), fun _ _ t ht => k t _ (sameU ht) upd_same⟩
theorem k_listD {d : Addr} {kvs : List (Key × V)} [cc : CxC X] (h : H d = some (.dK kvs)) (k : ∀ l H2, Same H H2 → H l = none → H2 l = some (.lst (kvs.map fun kv => kV kv.1)) → (∀ b, b ≠ l → H2 b = H b) → Q (.ref l) H2) : kW X (.type "list") [.ref d] H Q :=
  kI (call_listD cc.h) ⟨d, kvs, rfl, .inl h, fun l hl => k l _ (sameU hl) hl upd_same fun b hb => upd_ne hb⟩
/-- o[i] = v, o a dict whose keys are ints and texts -/
theorem g_setD {o i : Expr} {v : V} {R : L2.St → Hp → Prop} (hu : X.A.units + 1 < cLine) (h : eW X o σ H fun x H1 => eW X i σ H1 fun y H2 => ∃ d kvs k, x = .ref d ∧ H2 d = some (.dK kvs) ∧ y = kV k ∧ kvs.length ≤ 100000 ∧ ∀ H3, H3 d = some (.dK (putK kvs k v)) → (∀ b, b ≠ d → H3 b = H2 b) → R σ H3)
    (ha : ∀ v, assign (.Subscript o i pos) X.env v = (holding [v] (eval o X.env) >>= fun ov => holding [v, ov] (eval i X.env) >>= fun iv => standAt pos >>= fun _ => holding [v, ov, iv] (setItem ov iv v) >>= fun _ => release [v, ov, iv] []) := by intro _; rfl) : gW X (.Subscript o i pos) v σ H R :=
  gI (pg_sub PEw PEw (set_dict hu) ha) (eMono h fun x H1 h1 => eMono h1 fun y H2 ⟨d, kvs, k, e1, e2, e3, e4, q⟩ => ⟨d, _, e1, by rw [e3]; exact .k e2 (Nat.lt_of_le_of_lt e4 (by decide)), q _ upd_same fun b hb => upd_ne hb⟩)
/-- a comprehension, its elements by a word of the heap that holds while tuples stay -/
theorem lcH_h {it tg elt : Expr} {sc : Scope} {own : List (Str × Nat)} {R : Addr → Hp → Prop} (Pr : Nat → V → Hp → Prop) (hP : ∀ i y H H', TS H H' → Pr i y H → Pr i y H')
    (h : jW X tg it σ H fun J H1 => ∃ n G Y, Walk J n G Y ∧ n ≤ 100000 ∧ (∀ H', Same H1 H' → G H') ∧
      (∀ i x H' H2, i < n → Same H1 H' → Y i H' x H2 → Same H' H2 ∧ gB X sc tg x (wipe σ (own.map (·.2))) H2 fun σ3 H3 => wipe σ3 (own.map (·.2)) = wipe σ (own.map (·.2)) ∧ Same H2 H3 ∧ eB X sc elt σ3 H3 fun y H4 => Pr i y H4 ∧ Same H3 H4) ∧
      ∀ l H' ys, Same H1 H' → H1 l = none → H' l = some (.lst ys) → ys.length = n → (∀ i y, ys[i]? = some y → Pr i y H') → R l H') :
    jW X tg it σ H fun J H1 => ∃ n G Y, Walk J n G Y ∧ ∀ D, H1 D = none → ∃ Pv : Nat → Hp → Prop, Pv 0 (upd H1 D (.lst [])) ∧ (∀ i H', i ≤ n → Pv i H' → G H') ∧
      (∀ i x H' H2, i < n → Pv i H' → Y i H' x H2 → gB X sc tg x (wipe σ (own.map (·.2))) H2 fun σ3 H3 => wipe σ3 (own.map (·.2)) = wipe σ (own.map (·.2)) ∧ eB X sc elt σ3 H3 fun y H4 => ∃ acc, H4 D = some (.lst acc) ∧ acc.length < sizeLine ∧ Pv (i + 1) (upd H4 D (.lst (acc ++ [y])))) ∧
      ∀ H', Pv n H' → R D H' := by
  refine ⟨fun pins s I => wpAny_mono (h.run pins s I) (fun v s1 q => wpAny_mono q (fun u s2 ⟨i, fp, tn, J, H2, e, I2, T, t0, f2, n, G, Y, w, hn, q1, q2, q3⟩ => ⟨i, fp, tn, J, H2, e, I2, T, t0, f2, n, G, Y, w, fun D' hD => ⟨fun i H' => Same H2 H' ∧ ∃ acc, H' D' = some (.lst acc) ∧ acc.length = i ∧ ∀ j z, acc[j]? = some z → Pr j z H', ⟨sameU hD, [], upd_same, rfl, by simp⟩, fun _ _ _ p => q1 _ p.1, fun i x H' H3 hi p y s0 H0 C cl fp => ?_, fun H' p => by
    obtain ⟨p1, acc, p2, p3, p4⟩ := p
    exact q3 D' H' acc p1 hD p2 p3 p4⟩⟩) fun _ _ z => z) fun _ _ z => z⟩
  obtain ⟨k1, k2⟩ := q2 i x H' H3 hi p.1 y
  obtain ⟨p1, acc, p2, p3, p4⟩ := p
  refine ⟨fun pins s' u I r => wpAny_mono ((k2 s0 H0 C cl fp).run pins s' u I r) (fun _ s'' ⟨σ', H'', I'', e1, e2, e3⟩ => ⟨σ', H'', I'', e1, fun s0 H0 C cl fp => ⟨fun pins s' I => wpAny_mono ((e3 s0 H0 C cl fp).run pins s' I) (fun u s4 ⟨v4, H4, I4, r4, ev, e4⟩ => ⟨v4, H4, I4, r4, acc, e4 _ _ (e2 _ _ (k1 _ _ p2)), ?_, ?_, acc ++ [v4], upd_same, ?_, ?_⟩) fun _ _ z => z⟩⟩) fun _ _ z => z⟩
  · rw [p3]
    exact Nat.lt_of_lt_of_le (Nat.lt_of_lt_of_le hi hn) (by decide)
  · intro b o e
    rw [upd_ne (ne_of_none e hD)]
    exact e4 _ _ (e2 _ _ (k1 _ _ (p1 _ _ e)))
  · rw [List.length_append, p3]; rfl
  · have k4 := e4 _ _ (e2 _ _ (k1 _ _ p2))
    have up : TS H4 (upd H4 D' (.lst (acc ++ [v4]))) := TS.butL k4 fun b hb => upd_ne hb
    intro j z hz
    by_cases hj : j < i
    · rw [List.getElem?_append_left (by omega)] at hz
      exact hP _ _ _ _ ((TS.trans (Same.ts k1) (TS.trans (Same.ts e2) (Same.ts e4))).trans up) (p4 j z hz)
    · rw [List.getElem?_append_right (by omega), p3] at hz
      have hj2 : j = i := by
        have := (List.getElem?_eq_some_iff.mp hz).1
        simp at this
        omega
      subst hj2
      simp at hz
      rw [← hz]
      exact hP _ _ _ _ up ev
theorem e_lcH {it tg elt : Expr} {sc : Scope} {N : List Str} {own : List (Str × Nat)} [cc : CxC X] [cn : CxN X N] [nd : NdN N] (ok : BlkOk N X.env.scope sc own) (Pr : Nat → V → Hp → Prop) (hP : ∀ i y H H', TS H H' → Pr i y H → Pr i y H')
    (h : jW X tg it σ H fun J H1 => ∃ n G Y, Walk J n G Y ∧ n ≤ 100000 ∧ (∀ H', Same H1 H' → G H') ∧
      (∀ i x H' H2, i < n → Same H1 H' → Y i H' x H2 → Same H' H2 ∧ gB X sc tg x (wipe σ (own.map (·.2))) H2 fun σ3 H3 => wipe σ3 (own.map (·.2)) = wipe σ (own.map (·.2)) ∧ Same H2 H3 ∧ eB X sc elt σ3 H3 fun y H4 => Pr i y H4 ∧ Same H3 H4) ∧
      ∀ l H' ys, Same H1 H' → H1 l = none → H' l = some (.lst ys) → ys.length = n → (∀ i y, ys[i]? = some y → Pr i y H') → Q (.ref l) H') (hs : ∀ x, foldedSetIterable it X.env x = pure x := by intro _; rfl) : eW X (.ListComp elt [⟨tg, it, [], 0⟩] sc pos) σ H Q :=
  e_lc ok (lcH_h (R := fun l H' => Q (.ref l) H') Pr hP h) hs
theorem s_setLcH {it tg elt : Expr} {sc : Scope} {N : List Str} {own : List (Str × Nat)} {y : Str} {i : Nat} {D : Ends} {p3 : Pos} [cc : CxC X] [cn : CxN X N] [sl : Slt N y i] [nd : NdN N] (ok : BlkOk N X.env.scope sc own) (Pr : Nat → V → Hp → Prop) (hP : ∀ i y H H', TS H H' → Pr i y H → Pr i y H')
    (h : jW X tg it σ H fun J H1 => ∃ n G Y, Walk J n G Y ∧ n ≤ 100000 ∧ (∀ H', Same H1 H' → G H') ∧
      (∀ i x H' H2, i < n → Same H1 H' → Y i H' x H2 → Same H' H2 ∧ gB X sc tg x (wipe σ (own.map (·.2))) H2 fun σ3 H3 => wipe σ3 (own.map (·.2)) = wipe σ (own.map (·.2)) ∧ Same H2 H3 ∧ eB X sc elt σ3 H3 fun y H4 => Pr i y H4 ∧ Same H3 H4) ∧
      ∀ l H' ys, Same H1 H' → H1 l = none → H' l = some (.lst ys) → ys.length = n → (∀ i y, ys[i]? = some y → Pr i y H') → D.nx (σ.set i (some (.ref l))) H') (hyl : X.env.scope.names.lookup y = some .local := by rfl)
    (hsw : swapsWith (.ListComp elt [⟨tg, it, [], 0⟩] sc pos) (some (.Name y p2)) p3.line X.env = pure true := by exact sw_true rfl rfl rfl (by decide +kernel)) (hs : ∀ x, foldedSetIterable it X.env x = pure x := by intro _; rfl) : sW X (.Assign [.Name y p2] (.ListComp elt [⟨tg, it, [], 0⟩] sc pos) p3) D σ H :=
  s_setLc ok (lcH_h (R := fun l H' => D.nx (σ.set i (some (.ref l))) H') Pr hP h) hyl hsw hs
end
/-! ### a text so often -/
theorem fold_app : ∀ (n : Nat) (a : Array Nat) (z : Array Nat), ((List.replicate n z).foldl (· ++ ·) a).toList = a.toList ++ (List.replicate n z.toList).flatten
  | 0, a, z => by simp
  | n + 1, a, z => by
    rw [List.replicate_succ, List.foldl_cons, fold_app n, Array.toList_append, List.replicate_succ, List.flatten_cons, List.append_assoc]
theorem o_repS {X : Cx} {H : Hp} {Q : VK} {z : Str} {n : Int} (h0 : 0 ≤ n) (h1 : n ≤ 100000) (hz : z.length ≤ 100) (q : ∀ y, tl y = (List.replicate n.toNat (tl z)).flatten → Q (.str y) H) : oW X (binaryOp .Mult) (.str z) (.int n) H Q := by
  refine ⟨fun pins s σ v u I rx ry => ?_⟩
  obtain ⟨t, rfl⟩ := rx
  obtain ⟨t', rfl⟩ := ry
  have hm : z.length * n.toNat ≤ 100 * 100000 := Nat.mul_le_mul hz (by omega)
  refine PySem.P.mul_str (by rw [decide_eq_false (by omega), decide_eq_false (by omega)]; rfl) (fun c _ => ?_) (fun _ _ => ?_) ?_
  · have : (z.length : Int) ≤ (2 ^ 63 - 1) / n := by
      refine Int.le_ediv_of_mul_le (by omega) ?_
      have e : (z.length : Int) * n = ((z.length * n.toNat : Nat) : Int) := by
        rw [Int.natCast_mul, Int.toNat_of_nonneg h0]
      rw [e]
      omega
    omega
  · show decide (z.length * n.toNat > sizeLine) = false
    rw [sizeLine_eq]
    exact decide_eq_false (by omega)
  · by_cases c : n < 1
    · rw [if_pos c]
      refine ⟨by decide, ⟨.str Str.empty, H, I.tok _, ⟨_, rfl⟩, q _ ?_⟩⟩
      have : n.toNat = 0 := by omega
      rw [this]
      rfl
    · rw [if_neg c]
      by_cases c2 : (n == 1 || z.length == 0) = true
      · rw [if_pos c2]
        refine ⟨.str z, H, I.tok _, ⟨t, rfl⟩, q z ?_⟩
        rcases Bool.or_eq_true_iff.mp c2 with c3 | c3
        · have : n = 1 := beq_iff_eq.mp c3
          subst this
          simp
        · have e : tl z = [] := List.eq_nil_of_length_eq_zero (by rw [← len_tl]; exact beq_iff_eq.mp c3)
          rw [e]
          simp
      · rw [if_neg c2]
        have e : tl (⟨(List.replicate n.toNat z.cps).foldl (· ++ ·) #[]⟩ : Str) = (List.replicate n.toNat (tl z)).flatten := by
          show ((List.replicate n.toNat z.cps).foldl (· ++ ·) #[]).toList = _
          rw [fold_app]
          rfl
        refine ⟨?_, ⟨.str _, H, I.tok _, ⟨_, rfl⟩, q _ e⟩⟩
        rw [len_tl, e, List.length_flatten, List.map_replicate, List.sum_replicate_nat, ← len_tl, Nat.mul_comm, sizeLine_eq]
        omega
/-! ### exceptions: try, what a clause names, isinstance of what is caught -/
def trX (X : Cx) (pn : List (Addr × Obj)) (xe : Value → Shared → Prop) : Cx := X.tr pn xe
def suX (X : Cx) (a : Addr) (pn : List (Addr × Obj)) : Cx := X.suite a pn
theorem bMono {X : Cx} {b : List Stmt} {D : Ends} {σ : L2.St} {H : Hp} {nx : L2.St → Hp → Prop} (h : bW X b D σ H) (i : ∀ σ' H', D.nx σ' H' → nx σ' H') : bW X b { D with nx := nx } σ H := ⟨fun pins s I => wpAny_mono (h.run pins s I) (fun f s1 q => by
  cases f with
  | next => obtain ⟨σ', H', a, c⟩ := q; exact ⟨σ', H', a, i _ _ c⟩
  | brk => exact q
  | cont => exact q
  | ret v => exact q) fun _ _ x => x⟩
section
variable {X : Cx} {pn : List (Addr × Obj)} {xe : Value → Shared → Prop} {a : Addr}
instance {N : List Str} [c : CxN X N] : CxN (trX X pn xe) N := ⟨c.h⟩
instance {K : PySem.W.Frag} [c : CxK X K] : CxK (trX X pn xe) K := ⟨c.h⟩
instance {mg : Str → Option Value} [c : CxM X mg] : CxM (trX X pn xe) mg := ⟨c.h⟩
instance [c : CxC X] : CxC (trX X pn xe) := ⟨c.h⟩
instance {N : List Str} [c : CxN X N] : CxN (suX X a pn) N := ⟨c.h⟩
instance {K : PySem.W.Frag} [c : CxK X K] : CxK (suX X a pn) K := ⟨c.h⟩
instance {mg : Str → Option Value} [c : CxM X mg] : CxM (suX X a pn) mg := ⟨c.h⟩
instance : CxO (suX X a pn) := ⟨PassesOwn.never⟩
instance : CxT (suX X a pn) (fun _ _ _ _ => False) := ⟨takes0 (X := suX X a pn)⟩
end
section
variable {K : PySem.W.Frag} {mg : Str → Option Value} {x y : Str} {C D : Addr} {b : Bool}
theorem ExcF.excC (T : ExcF K mg x C) : ExcC K C := ⟨T.ga, T.gk, T.be, T.hd, T.ha, T.hn, T.ht, T.hm⟩
theorem ExcF.self (T : ExcF K mg x C) : PySem.W.subIn K (.ref C) (.ref C) = some true := by
  have q := T.ex
  unfold PySem.W.excIn at q
  show PySem.W.mroIn K C (.ref C) = some true
  unfold PySem.W.mroIn PySem.W.clsIn
  split at q
  · rename_i dd cd sl ho
    rw [ho]
    dsimp only
    split at q
    · rename_i C' bm k0 k1 k2 k3 n k5 hm hs
      simp only [Bool.and_eq_true, beq_iff_eq] at q
      obtain ⟨⟨⟨⟨⟨e, _⟩, _⟩, _⟩, _⟩, _⟩ := q
      subst e
      rw [Option.bind_some, hm]
      simp
    · cases q
  · cases q
theorem ExcF.kit (TD : ExcF K mg x D) (TC : ExcF K mg y C) (h : PySem.W.subIn K (.ref D) (.ref C) = some b) : PySem.W.kitOne K (.ref D) (.ref C) = some b := by
  by_cases e : D = C
  · subst e
    rw [TD.self] at h
    cases h
    exact kit_self
  · exact kit_refs h TC.ic TC.ty e
theorem ExcF.kitVE (TD : ExcF K mg x D) : PySem.W.kitOne K (.ref D) (.type "ValueError") = some true := by
  have e2 : (Value.ref D == Value.type "ValueError") = false := by simp
  have e3 : PySem.W.kitMeta "ValueError" = true := by decide +kernel
  show (if (Value.ref D == Value.type "ValueError") = true then some true else if PySem.W.kitMeta "ValueError" = true then PySem.W.subIn K (.ref D) (.type "ValueError") else none) = some true
  rw [e2, if_neg Bool.false_ne_true, if_pos e3]
  exact TD.ve
theorem ExcF.exm (TC : ExcF K mg y C) (h : PySem.W.subIn K (.ref D) (.ref C) = some b) : PySem.W.exmOne K (.ref D) (.ref C) = some b := PySem.W.exm_ref TC.be TC.hd TC.ty h
theorem kit_none {t : Value} : ∀ {cs : List Addr}, (∀ c ∈ cs, PySem.W.kitOne K t (.ref c) = some false) → PySem.W.kitAny K t (cs.map Value.ref) = some false
  | [], _ => rfl
  | c :: cs, h => by
    show (match PySem.W.kitOne K t (.ref c) with
      | some true => some true
      | some false => PySem.W.kitAny K t (cs.map Value.ref)
      | none => none) = some false
    rw [h c List.mem_cons_self]
    exact kit_none fun d hd => h d (List.mem_cons_of_mem _ hd)
theorem vals_refs : ∀ {cs : List Addr} {its : List Value}, Vals (cs.map V.ref) its → its = cs.map Value.ref
  | [], _, .nil => rfl
  | c :: cs, _, .cons r t => by
    have e : _ = Value.ref c := r
    rw [e, vals_refs t]
    rfl
end
section
variable {X : Cx} {σ : L2.St} {H : Hp} {D : Ends} {Q : VK} {pos pos' np p2 p3 p4 : Pos} {st b₀ : Stmt} {body suite orelse : List Stmt} {N : List Str} {x y n : Str} {a C E : Addr} {oe : Obj} {pn : List (Addr × Obj)} {b : Bool} {mg : Str → Option Value}
/-- isinstance(e, C), e what the suite holds -/
theorem k_isE (TD : ExcF X.K mg x E) (TC : ExcF X.K mg y C) (hz : Zc (.ref E) none oe) (hf : ∃ vs, oe.data = .fields vs) (h : PySem.W.subIn X.K (.ref E) (.ref C) = some b) (q : Q (.bl b) H) : kW (suX X a ((a, oe) :: pn)) (.builtin "isinstance") [.ref a, .ref C] H Q :=
  kI (X := X.suite a ((a, oe) :: pn)) (call_isE TD.excC hz hf) ⟨_, _, _, rfl, fun _ r => r, TD.kit TC h, q⟩
theorem k_isEV (TD : ExcF X.K mg x E) (hz : Zc (.ref E) none oe) (hf : ∃ vs, oe.data = .fields vs) (q : Q (.bl true) H) : kW (suX X a ((a, oe) :: pn)) (.builtin "isinstance") [.ref a, .ty "ValueError"] H Q :=
  kI (X := X.suite a ((a, oe) :: pn)) (call_isE TD.excC hz hf) ⟨_, _, _, rfl, fun _ r => r, TD.kitVE, q⟩
/-- isinstance(e, (C1, C2, ..)), none of them -/
theorem k_isEN {t : Addr} (cs : List Addr) (TD : ExcF X.K mg x E) (hz : Zc (.ref E) none oe) (hf : ∃ vs, oe.data = .fields vs) (ht : H t = some (.tup (cs.map V.ref))) (h : ∀ c ∈ cs, PySem.W.kitOne X.K (.ref E) (.ref c) = some false) (q : Q (.bl false) H) :
    kW (suX X a ((a, oe) :: pn)) (.builtin "isinstance") [.ref a, .ref t] H Q := by
  refine ⟨fun pins s σ us I r => ?_⟩
  cases r with
  | cons rx rr =>
    cases rr with
    | cons rt rr =>
      cases rr
      cases rx
      cases rt
      obtain ⟨hget, _⟩ := I.pin (a, oe) (List.mem_append.mpr (.inl List.mem_cons_self))
      obtain ⟨vs, hv⟩ := hf
      have J : PySem.W.InstAt s.heap a oe E none := by
        obtain ⟨oc, od, oda, osl⟩ := oe
        obtain ⟨h1, h2⟩ := hz
        dsimp only at h1 h2 hv
        subst h1 h2 hv
        exact ⟨hget, rfl, rfl, trivial⟩
      have C := TD.excC
      obtain ⟨_, its, rv, ho⟩ : ObjOk X.prog X.w H s.heap t (.tup (cs.map V.ref)) := I.hok t _ ht
      have e := vals_refs rv
      subst e
      obtain ⟨⟨oc, dd, dt, osl⟩, hg, e1, nn, e2⟩ := ho
      dsimp only at e1 e2
      subst e1 e2
      exact PySem.W.kia_tup (PySem.W.handS_kitx_exc C.hg C.hk C.hs C.hd C.ha C.hn C.ht C.hm) I.kIn J hg (kit_none h) (fun z => nomatch z) fun tk => ⟨.bl false, H, I.kept (t' := tk) fun _ _ z => z, rfl, q⟩
theorem k_intB {k : Bool} (q : Q (.int (if k then 1 else 0)) H) : kW X (.type "int") [.bl k] H Q := kI call_int1 (.inr ⟨k, rfl, q⟩)
/-- try: body, except x as n: suite -/
theorem s_tryAs {i : Nat} {Wout : WX} [cn : CxN X N] [sl : Slt N n i] [nd : NdN N] [ct : CxT X Wout] (T : ExcF X.K X.mg x C) (W : WX)
    (hw : ∀ cls d σ' H', W cls d σ' H' → (PySem.W.exmOne X.K cls (.ref C) = some true ∧ ∀ a oe pn, H' a = none → Zc cls d oe → (∃ vs, oe.data = .fields vs) →
        bW (suX X a ((a, oe) :: pn)) (b₀ :: suite) { nx := fun σ' H' => D.nx (σ'.set i none) H', rt := D.rt, bk := fun σ' H' => D.bk (σ'.set i none) H', ct := fun σ' H' => D.ct (σ'.set i none) H' } (σ'.set i (some (.ref a))) H') ∨
      (PySem.W.exmOne X.K cls (.ref C) = some false ∧ Wout cls d σ' H'))
    (hb : ∀ pn xe, CxT (trX X pn xe) W → CxO (trX X pn xe) → bW (trX X pn xe) body D σ H)
    (hg : Gl X x := by rfl) (hdb : (x == ("__debug__" : Str)) = false := by decide) (hln : X.env.kindOf n = some .local := by rfl) (hs : X.stack = X.env :: X.outer := by rfl) (hf : X.env.frame = some X.env.locals := by rfl) :
    sW X (.Try body [.ExceptHandler (some (.Name x np)) (some n) (b₀ :: suite) pos'] [] [] pos) D σ H :=
  sI (ps_try_as hs hf (by rw [cn.h]; exact nd.h) (by rw [cn.h]; exact sl.h) hln ⟨hg, hdb, .inl T.mg⟩ ct.h
    (tb := fun W' D' σ' H' => ∀ pn xe, CxT (trX X pn xe) W' → CxO (trX X pn xe) → bW (trX X pn xe) body D' σ' H')
    (ts := fun a cls d D' σ' H' => ∀ oe pn, Zc cls d oe → (∃ vs, oe.data = .fields vs) → bW (suX X a ((a, oe) :: pn)) (b₀ :: suite) D' σ' H')
    (fun W' pn xe tk ow => ⟨fun pins s σ H D I q => (q pn xe ⟨tk⟩ ⟨ow⟩).run pins s I⟩)
    (fun a oe cls d pn hz hf => ⟨fun pins s σ H D I q => (q oe pn hz hf).run pins s I⟩))
   (fun pn xe c1 c2 => hb pn xe ⟨c1.h.imp fun cls d σ' H' w => (hw cls d σ' H' w).elim (fun ⟨h1, h2⟩ => ⟨true, h1, fun _ a ha oe pn hz hf => h2 a oe pn ha hz hf, fun z => nomatch z⟩) fun ⟨h1, h2⟩ => ⟨false, h1, (fun z => nomatch z), fun _ => h2⟩⟩ c2)
/-- try: body, except x: suite, else: orelse -/
theorem s_tryElse {Wout : WX} [ct : CxT X Wout] (T : ExcF X.K X.mg x C) (W : WX)
    (hw : ∀ cls d σ' H', W cls d σ' H' → (PySem.W.exmOne X.K cls (.ref C) = some true ∧ ∀ a oe pn, H' a = none → Zc cls d oe → (∃ vs, oe.data = .fields vs) → bW (suX X a ((a, oe) :: pn)) (b₀ :: suite) D σ' H') ∨ (PySem.W.exmOne X.K cls (.ref C) = some false ∧ Wout cls d σ' H'))
    (hb : ∀ pn xe, CxT (trX X pn xe) W → CxO (trX X pn xe) → bW (trX X pn xe) body { D with nx := bW X orelse D } σ H)
    (hg : Gl X x := by rfl) (hdb : (x == ("__debug__" : Str)) = false := by decide) (hs : X.stack = X.env :: X.outer := by rfl) (hf : X.env.frame = some X.env.locals := by rfl) :
    sW X (.Try body [.ExceptHandler (some (.Name x np)) none (b₀ :: suite) pos'] orelse [] pos) D σ H :=
  sI (ps_try_onlyE (u := bW X orelse) PBw hs hf ⟨hg, hdb, .inl T.mg⟩ ct.h
    (tb := fun W' D' σ' H' => ∀ pn xe, CxT (trX X pn xe) W' → CxO (trX X pn xe) → bW (trX X pn xe) body D' σ' H')
    (ts := fun a cls d D' σ' H' => ∀ oe pn, Zc cls d oe → (∃ vs, oe.data = .fields vs) → bW (suX X a ((a, oe) :: pn)) (b₀ :: suite) D' σ' H')
    (fun W' pn xe tk ow => ⟨fun pins s σ H D I q => (q pn xe ⟨tk⟩ ⟨ow⟩).run pins s I⟩)
    (fun a oe cls d pn hz hf => ⟨fun pins s σ H D I q => (q oe pn hz hf).run pins s I⟩))
   (fun pn xe c1 c2 => hb pn xe ⟨c1.h.imp fun cls d σ' H' w => (hw cls d σ' H' w).elim (fun ⟨h1, h2⟩ => ⟨true, h1, fun _ a ha oe pn hz hf => h2 a oe pn ha hz hf, fun z => nomatch z⟩) fun ⟨h1, h2⟩ => ⟨false, h1, (fun z => nomatch z), fun _ => h2⟩⟩ c2)
/-- try: body, except x: suite -/
theorem s_tryOnly {Wout : WX} [ct : CxT X Wout] (T : ExcF X.K X.mg x C) (W : WX)
    (hw : ∀ cls d σ' H', W cls d σ' H' → (PySem.W.exmOne X.K cls (.ref C) = some true ∧ ∀ a oe pn, H' a = none → Zc cls d oe → (∃ vs, oe.data = .fields vs) → bW (suX X a ((a, oe) :: pn)) (b₀ :: suite) D σ' H') ∨ (PySem.W.exmOne X.K cls (.ref C) = some false ∧ Wout cls d σ' H'))
    (hb : ∀ pn xe, CxT (trX X pn xe) W → CxO (trX X pn xe) → bW (trX X pn xe) body D σ H)
    (hg : Gl X x := by rfl) (hdb : (x == ("__debug__" : Str)) = false := by decide) (hs : X.stack = X.env :: X.outer := by rfl) (hf : X.env.frame = some X.env.locals := by rfl) :
    sW X (.Try body [.ExceptHandler (some (.Name x np)) none (b₀ :: suite) pos'] [] [] pos) D σ H :=
  s_tryElse T W hw (fun pn xe c1 c2 => ⟨fun pins s I => (bMono (hb pn xe c1 c2) (fun σ' H' q => b_nil q)).run pins s I⟩) hg hdb hs hf
end
/-! ### try with clauses of any kind -/
theorem wp_forIn {M : Model} {A : Around} {E : Value → Shared → Prop} {α β : Type} {f : α → β → Sem (ForInStep β)} {init : β} {s : Shared} {Q : β → Shared → Prop} : ∀ L : List α, (∀ c ∈ L, ∀ R : ForInStep β → Shared → Prop, R (.yield init) s → wpAny M A (f c init) R E s) → Q init s → wpAny M A (forIn L init f) Q E s
  | [], _, q => by rw [List.forIn_nil]; exact wpAny_pure q
  | c :: L, h, q => by
    rw [List.forIn_cons]
    exact wpAny_bind (h c (List.mem_cons_self ..) _ (wp_forIn L (fun d hd => h d (List.mem_cons_of_mem _ hd)) q))
theorem exm_none {M : Model} {K : PySem.W.Frag} {cs : List Addr} {cls : Value} {tp e : Addr} {h : Heap} (X : K.In h) (LT : PySem.W.Looks M h (typeOf (.ref e)) cls) (hp : h.get? tp = some { cls := .type "tuple", data := .seq (cs.map Value.ref).toArray })
    (hx : ∀ c ∈ cs, PySem.W.exmOne K cls (.ref c) = some false) : PySem.W.Looks M h (excMatches (.ref e) (.ref tp)) false := by
  intro A Q E s k₀ q
  obtain ⟨hh, g, d, tk, os⟩ := s
  have k : ∀ b o, h.get? b = some o → hh.get? b = some o := k₀
  have LTT : PySem.W.Looks M h (isInstance (.ref tp) (.type "tuple")) true := ((PySem.W.Looks.ld hp).andThen .now).andThen (PySem.W.Looks.of_pure isSubtype_tuple_tuple)
  have hpp := k _ _ hp
  unfold excMatches
  refine wpAny_bind ((LTT.keeps k).at ?_)
  dsimp only
  rw [if_pos rfl]
  first
    | refine wpAny_bind (wpAny_seqItems hpp rfl ?_)
    | refine wpAny_bind (wpAny_bind (wpAny_seqItems hpp rfl (wpAny_pure ?_)))
  dsimp only [Option.getD_some, Option.getD]
  have get : ∀ v ∈ cs.map Value.ref, PySem.W.exmOne K cls v = some false := fun v hv => by
    obtain ⟨c, hc, rfl⟩ := List.mem_map.mp hv
    exact hx c hc
  refine wpAny_bind (wpAny_pure (wpAny_bind (wp_forIn _ (fun c hc R r => ?_) ?_)))
  · have L1 := (PySem.W.exm_cls (M := M) X (get c hc)).1.keeps k
    refine wpAny_bind (L1.at ?_)
    rw [if_neg (by decide)]
    exact wpAny_pure r
  · refine wpAny_bind ((LT.keeps k).at ?_)
    refine wpAny_bind (wp_forIn _ (fun c hc R r => ?_) ?_)
    · have L1 := (PySem.W.exm_cls (M := M) X (get c hc)).2.keeps k
      refine wpAny_bind (L1.at ?_)
      rw [if_neg (by decide)]
      exact wpAny_pure r
    · exact wpAny_pure q
/-- an exception that was caught, kept -/
def ExK (cls : Value) (d : Option Addr) (a : Addr) : HO := .ext fun h => ∃ (oe : Obj) (vs : Array Value), h.get? a = some oe ∧ Zc cls d oe ∧ oe.data = .fields vs
theorem exK_ok {P : Program} {w : World} {H : Hp} {h : Heap} {a : Addr} {cls : Value} {d : Option Addr} {oe : Obj} {vs : Array Value} (e : h.get? a = some oe) (z : Zc cls d oe) (q : oe.data = .fields vs) : ObjOk P w H h a (ExK cls d a) :=
  ⟨⟨oe, vs, e, z, q⟩, ⟨oe, e⟩, fun _ _ ⟨o, v, q, r⟩ k => ⟨o, v, k o q, r⟩⟩
/-- what stood unseen is seen -/
theorem lay_old {X : Cx} {pins : List (Addr × Obj)} {σ : L2.St} {H : Hp} {s : Shared} {a : Addr} {o : HO} (I : Inv X pins σ H s) (hn : H a = none) (h0 : X.s_0.heap.get? a = none) (nl : a ≠ X.env.locals) (nc : ∀ v, ¬ s.heap.IsCell a v)
    (np : ∀ p ∈ X.pn ++ pins, p.1 ≠ a) (new : ObjOk X.prog X.w (upd H a o) s.heap a o) : Inv X pins σ (upd H a o) s where
  ok := I.ok
  os := I.os
  bare := I.bare
  base := { keep := I.base.keep, slot := I.base.slot, there := I.base.there
            free := fun b u q n x => by rw [upd_ne fun z => by rw [z, h0] at q; cases q]; exact I.base.free b u q n x
            tups := fun b xs q => by
              have t := I.base.tups b xs q
              rw [upd_ne fun z => by rw [z, hn] at t; cases t]; exact t
            frzs := fun b u xs q => by
              have t := I.base.frzs b u xs q
              rw [upd_ne fun z => by rw [z, hn] at t; cases t]; exact t
            tbls := fun b ps q => by
              obtain ⟨m, t⟩ := I.base.tbls b ps q
              exact ⟨m, by rw [upd_ne fun z => by rw [z, hn] at t; cases t]; exact t⟩ }
  loc := I.loc
  cell := I.cell
  free := by rw [upd_ne (Ne.symm nl)]; exact I.free
  freeC := fun x c e => by
    rw [upd_ne fun z => by
      obtain ⟨v, hv⟩ := I.cell x c e
      rw [z] at hv
      exact nc v hv]
    exact I.freeC x c e
  pin := fun p hp => by
    obtain ⟨q1, q2, q3⟩ := I.pin p hp
    exact ⟨q1, by rw [upd_ne (np p hp)]; exact q2, q3⟩
  hok := HOk.laidN I.hok (fun _ _ z => z) hn new
  len := I.len
/-- the ends of a suite: what is held is kept -/
def keptD (D : Ends) (f : L2.St → L2.St) (cls : Value) (d : Option Addr) (a : Addr) : Ends where
  nx := fun σ H => ∀ H2, Same H H2 → H2 a = some (ExK cls d a) → D.nx (f σ) H2
  rt := fun v H => ∀ H2, Same H H2 → H2 a = some (ExK cls d a) → D.rt v H2
  bk := fun σ H => ∀ H2, Same H H2 → H2 a = some (ExK cls d a) → D.bk (f σ) H2
  ct := fun σ H => ∀ H2, Same H H2 → H2 a = some (ExK cls d a) → D.ct (f σ) H2
/-- the names of a tuple of classes -/
inductive Tst (X : Cx) : List Expr → List Addr → Prop
  | nil : Tst X [] []
  | cons {x : Str} {c : Addr} {np : Pos} {es : List Expr} {cs : List Addr} (hc : Names X x (.ref c)) (hs : starEach (.Name x np :: es) X.env = (false, eval (.Name x np) X.env) :: starEach es X.env) (t : Tst X es cs) : Tst X (.Name x np :: es) (c :: cs)
/-- what the clauses do with an exception of the class cls -/
inductive Caught (X : Cx) (D : Ends) (Wout : WX) (cls : Value) (d : Option Addr) (σ : L2.St) (H : Hp) : List ExceptHandler → Prop
  | out (w : Wout cls d σ H) : Caught X D Wout cls d σ H []
  | skip {x : Str} {c : Addr} {np pos : Pos} {nm : Option Str} {b₀ : Stmt} {suite : List Stmt} {hds : List ExceptHandler} (hc : Names X x (.ref c)) (hx : PySem.W.exmOne X.K cls (.ref c) = some false) (r : Caught X D Wout cls d σ H hds) : Caught X D Wout cls d σ H (.ExceptHandler (some (.Name x np)) nm (b₀ :: suite) pos :: hds)
  | skipT {es : List Expr} {k : Nat} {cs : List Addr} {tp pos : Pos} {nm : Option Str} {b₀ : Stmt} {suite : List Stmt} {hds : List ExceptHandler} (t : Tst X es cs) (hz : cs.length ≤ 1000) (hx : ∀ c ∈ cs, PySem.W.exmOne X.K cls (.ref c) = some false) (r : Caught X D Wout cls d σ H hds) :
      Caught X D Wout cls d σ H (.ExceptHandler (some (.Tuple es k tp)) nm (b₀ :: suite) pos :: hds)
  | hit {x : Str} {c : Addr} {np pos : Pos} {b₀ : Stmt} {suite : List Stmt} {hds : List ExceptHandler} (hc : Names X x (.ref c)) (hx : PySem.W.exmOne X.K cls (.ref c) = some true)
      (q : ∀ a oe pn, H a = none → Zc cls d oe → (∃ vs, oe.data = .fields vs) → bW (suX X a ((a, oe) :: pn)) (b₀ :: suite) (keptD D id cls d a) σ H) : Caught X D Wout cls d σ H (.ExceptHandler (some (.Name x np)) none (b₀ :: suite) pos :: hds)
  | hitAs {x n : Str} {i : Nat} {c : Addr} {np pos : Pos} {b₀ : Stmt} {suite : List Stmt} {hds : List ExceptHandler} (hN : X.N.Nodup) (hi : X.N[i]? = some n) (hln : X.env.kindOf n = some .local) (hc : Names X x (.ref c)) (hx : PySem.W.exmOne X.K cls (.ref c) = some true)
      (q : ∀ a oe pn, H a = none → Zc cls d oe → (∃ vs, oe.data = .fields vs) → bW (suX X a ((a, oe) :: pn)) (b₀ :: suite) (keptD D (·.set i none) cls d a) (σ.set i (some (.ref a))) H) : Caught X D Wout cls d σ H (.ExceptHandler (some (.Name x np)) (some n) (b₀ :: suite) pos :: hds)
theorem tst_name {X : Cx} {a : Addr} {pn pins : List (Addr × Obj)} {σ : L2.St} {H : Hp} {s : Shared} {x : Str} {np : Pos} {c : Value} (hc : Names X x c) (S : Inv (X.suite a pn) pins σ H s) {Q : Value → Shared → Prop} {E : Value → Shared → Prop} (q : Q c s) :
    wpAny (model X.prog X.w) (X.A.mark (some (.ref a))) (eval (.Name x np) X.env) Q E s := by
  obtain ⟨hg, hdb, hm | ⟨hm, hv, hn⟩⟩ := hc
  · exact ld_glob (X := X.suite a pn) S hg hm q hdb
  · exact ld_blt (X := X.suite a pn) S hg hm hv q hn hdb
theorem tst_run {X : Cx} {a : Addr} {pn pins : List (Addr × Obj)} {σ : L2.St} {H : Hp} {s : Shared} {pos : Pos} (S : Inv (X.suite a pn) pins σ H s) {E : Value → Shared → Prop} : ∀ {es : List Expr} {cs : List Addr}, Tst X es cs → ∀ {Q : List Value → Shared → Prop}, Q (cs.map Value.ref) s →
    wpAny (model X.prog X.w) (X.A.mark (some (.ref a))) (spliced (backTo pos (starEach es X.env))) Q E s
  | _, _, .nil, Q, q => wpAny_pure q
  | _, _, .cons hc hs t, Q, q => by
    rw [hs]
    show wpAny _ _ (spliced ((false, eval _ X.env) :: backTo pos _)) _ _ s
    exact Calls.spliced_cons (tst_name hc S (tst_run S t q))
theorem s_tryC {X : Cx} {σ : L2.St} {H : Hp} {D : Ends} {pos : Pos} {body orelse : List Stmt} {h₀ : ExceptHandler} {hds : List ExceptHandler} {Wout : WX} [ct : CxT X Wout] (W : WX)
    (hw : ∀ cls d σ' H', W cls d σ' H' → Caught X D Wout cls d σ' H' (h₀ :: hds))
    (hb : ∀ pn xe, CxT (trX X pn xe) W → CxO (trX X pn xe) → bW (trX X pn xe) body { D with nx := bW X orelse D } σ H)
    (hs : X.stack = X.env :: X.outer := by rfl) (hf : X.env.frame = some X.env.locals := by rfl) (hex : X.ex = [] := by rfl) : sW X (.Try body (h₀ :: hds) orelse [] pos) D σ H := by
  refine ⟨fun pins s I => ?_⟩
  have ok := I.ok
  have fr0 : X.A.frames = some (X.env :: X.outer) := by rw [ok.frames, hs]
  refine wpAny_Try_except ?_
  refine wpAny_mono ((hb (X.pn ++ pins) (fun e s1 => wpAny (model X.prog X.w) X.A (noteFrame e X.env) (fun _ s2 => wpAny (model X.prog X.w) X.A (setFlight e none) (fun _ s3 => wpAny (model X.prog X.w) X.A (handleBy e X.env (h₀ :: hds)) (SP X pins D) X.xe s3) X.xe s2) X.xe s1)
    ⟨fun u s' xx => ?_⟩ ⟨PassesOwn.looking⟩).run [] s (I.toTry _)) (fun f s1 hsp => ?_) (fun e s1 he => he)
  · obtain ⟨a, B, sI, pins', σ', H', cls, d, rfl, J0, nb, up, sky, na, os, ag, w⟩ := xx
    have JJ : Inv X pins σ' H' sI := J0.ofTry ok
    have sky2 : Sky B (X.env :: X.outer) a (Zc cls d) X.env.locals s'.heap := by rw [← hs]; exact sky
    show wpAny (model X.prog X.w) X.A (noteFrame (.ref a) X.env) _ _ _
    refine Sky.land Zc.steady fr0 hf sky2 fun h3 fl3 up3 => ?_
    have aB : B.get? a = none := fl3.2.1
    have nfr : a ∉ frs (X.env :: X.outer) := fun hm => by
      obtain ⟨oe3, vs3, he3, _, hd3⟩ := fl3.there
      obtain ⟨_, o', e', hnf⟩ := fl3.2.2.1.mem hm; rw [he3] at e'; cases e'; exact hnf _ hd3
    have nL : a ≠ X.env.locals := fun z => nfr (List.mem_filterMap.mpr ⟨X.env, List.mem_cons_self .., by rw [hf, z]⟩)
    have nF : a ∉ X.fs := fun hm => by
      obtain ⟨e, he, q⟩ := List.mem_filterMap.mp hm; exact nfr (List.mem_filterMap.mpr ⟨e, List.mem_cons_of_mem _ he, q⟩)
    have ngr : ∀ o, ¬ sI.heap.get? a = some o := fun o e => by
      have t := nb a o e (by show a ∉ frs X.stack; rw [hs]; exact nfr); rw [aB] at t; cases t
    have h0 : X.s_0.heap.get? a = none := by
      cases e : X.s_0.heap.get? a with
      | none => rfl
      | some o => obtain ⟨o', q⟩ := JJ.base.there a o e (by rw [hex]; simp); exact absurd q (ngr o')
    have np : ∀ p ∈ X.pn ++ pins, p.1 ≠ a := fun p hp z => ngr p.2 (by rw [← z]; exact (JJ.pin p hp).1)
    have fac : ∀ h, HandSPX.FlyingZ B (X.env :: X.outer) a (Zc cls d) h → sI.heap.UpToSlots h → Inv X pins σ' H' { s' with heap := h } ∧ ∃ oe, Zc cls d oe ∧ (∃ vs, oe.data = .fields vs) ∧ h.get? a = some oe ∧ Inv (X.suite a ((a, oe) :: (X.pn ++ pins))) [] σ' H' { s' with heap := h } := fun h fl u => by
      obtain ⟨oe, vs, he, hz, hd⟩ := fl.there
      have J : Inv X pins σ' H' { s' with heap := h } := JJ.landed nb fl.1 u os ag
      exact ⟨J, oe, hz, ⟨vs, hd⟩, he, J.suite he hd na nL nF⟩
    have kept6 : ∀ {oe : Obj} {σ6 : L2.St} {H6 : Hp} {s6 : Shared}, Zc cls d oe → (∃ vs, oe.data = .fields vs) → Inv (X.suite a ((a, oe) :: (X.pn ++ pins))) [] σ6 H6 s6 → Inv X pins σ6 (upd H6 a (ExK cls d a)) s6 ∧ Same H6 (upd H6 a (ExK cls d a)) := fun {oe σ6 H6 s6} hz hd S6 => by
      obtain ⟨vs, hd⟩ := hd
      obtain ⟨p1, p2, p3, p4, p5⟩ := S6.pin (a, oe) (List.mem_append_left _ (List.mem_cons_self ..))
      exact ⟨lay_old (S6.unsuite ok) p2 h0 nL (fun v ⟨o, q1, q2⟩ => by rw [p1] at q1; cases q1; exact p5 v q2) np (exK_ok p1 hz hd), sameU p2⟩
    have go : ∀ {hs2 : List ExceptHandler}, Caught X D Wout cls d σ' H' hs2 → ∀ h, HandSPX.FlyingZ B (X.env :: X.outer) a (Zc cls d) h → sI.heap.UpToSlots h → wpAny (model X.prog X.w) X.A (handleBy (.ref a) X.env hs2) (SP X pins D) X.xe { s' with heap := h } := by
      intro hs2 hk
      induction hk with
      | out w =>
        intro h fl u
        refine wpAny_handleBy_nil ?_
        obtain ⟨_, _, _, oe, vs, T, oT, ts, he, hz, hd, h1, hr⟩ := id fl
        unfold PySem.passOn; refine wpAny_bind (wpAny_field he hd h1 ?_); rw [if_neg (show ¬ ((Value.ref T == Value.none) = true) from by simp)]
        have fin : wpAny (model X.prog X.w) X.A (setFlight (.ref a) X.env.frame) (fun _ s4 => wpAny (model X.prog X.w) X.A (throw (.ref a) : Sem Flow) (SP X pins D) X.xe s4) X.xe { s' with heap := h } := by
          rw [hf]; exact HandSPX.setFlight_upZ fl fun h4 hh4 up4 => wpAny_throw (ct.h _ _ ⟨a, B, sI, pins, σ', H', cls, d, rfl, JJ, nb, u.trans up4, .inr (.inr (by rw [hs]; exact hh4)), na, os, ag, w⟩)
        first | exact wpAny_bind (wpAny_pure (wpAny_bind fin)) | exact wpAny_bind fin
      | skip hc hx r ih =>
        intro h fl u
        obtain ⟨J, oe, hz, hd, he, S⟩ := fac h fl u
        refine wpAny_handleBy_cons (codeAny_handlers_test ?_) (by intro q; cases q)
        have LT : PySem.W.Looks (model X.prog X.w) h (typeOf (.ref a)) cls := fun A Q E s k q => wpAny_typeOf_ref (k _ _ he) (by rw [hz.1]; exact q)
        refine tst_name hc S ((PySem.W.exm_one (M := model X.prog X.w) J.kIn LT hx).here ?_)
        exact ih h fl u
      | @skipT es k cs tp pos nm b₀ suite hds t hz1 hx r ih =>
        intro h fl u
        obtain ⟨J, oe, hz, hd, he, S⟩ := fac h fl u
        refine wpAny_handleBy_cons (codeAny_handlers_test ?_) (by intro q; cases q)
        refine wpAny_Tuple_spliced (tst_run S t ⟨by rw [List.length_map]; exact Nat.le_trans hz1 (by decide), ?_⟩)
        have kp : ∀ b o, h.get? b = some o → (h.push { cls := .type "tuple", data := .seq (cs.map Value.ref).toArray }).get? b = some o := fun b o e => Heap.get?_push_of_some _ e
        have fl2 : HandSPX.FlyingZ B (X.env :: X.outer) a (Zc cls d) (h.push { cls := .type "tuple", data := .seq (cs.map Value.ref).toArray }) := by
          obtain ⟨q1, q2, q3, oe', vs, T, oT, ts, r1, r2, r3, r4, r5, r6, r7, r8⟩ := id fl
          exact ⟨fun b o e => kp b o (q1 b o e), q2, q3.of_keeps fun b o e _ => ⟨o, kp b o e, rfl⟩, oe', vs, T, oT, ts, kp _ _ r1, r2, r3, r4, r5, r6, kp _ _ r7, r8⟩
        have u2 : sI.heap.UpToSlots (h.push { cls := .type "tuple", data := .seq (cs.map Value.ref).toArray }) := u.trans fun b o e _ => ⟨o.slots, kp b o e⟩
        have LT : PySem.W.Looks (model X.prog X.w) (h.push { cls := .type "tuple", data := .seq (cs.map Value.ref).toArray }) (typeOf (.ref a)) cls := fun A Q E s k q => wpAny_typeOf_ref (k _ _ (kp _ _ he)) (by rw [hz.1]; exact q)
        refine (exm_none (M := model X.prog X.w) (fac _ fl2 u2).1.kIn LT (Heap.get?_push_size _ rfl) hx).here ?_
        exact ih _ fl2 u2
      | hit hc hx q =>
        intro h fl u
        obtain ⟨J, oe, hz, hd, he, S⟩ := fac h fl u
        refine wpAny_handleBy_cons (codeAny_handlers_test ?_) (by intro q; cases q)
        have LT : PySem.W.Looks (model X.prog X.w) h (typeOf (.ref a)) cls := fun A Q E s k q => wpAny_typeOf_ref (k _ _ he) (by rw [hz.1]; exact q)
        refine tst_name hc S ((PySem.W.exm_one (M := model X.prog X.w) J.kIn LT hx).here ?_)
        refine codeAny_handlers_suite (HandSPX.lands_againZ fl fun h4 fl4 up4 => ?_)
        obtain ⟨J4, oe4, hz4, hd4, he4, S4⟩ := fac h4 fl4 (u.trans up4)
        refine wpAny_mono ((q a oe4 (X.pn ++ pins) na hz4 hd4).run [] _ S4) (fun f s6 hsp => ?_) fun _ _ z => False.elim z
        cases f with
        | next => obtain ⟨σ6, H6, S6, q6⟩ := hsp; obtain ⟨k1, k2⟩ := kept6 hz4 hd4 S6; exact ⟨_, _, k1, q6 _ k2 upd_same⟩
        | brk => obtain ⟨σ6, H6, S6, q6⟩ := hsp; obtain ⟨k1, k2⟩ := kept6 hz4 hd4 S6; exact ⟨_, _, k1, q6 _ k2 upd_same⟩
        | cont => obtain ⟨σ6, H6, S6, q6⟩ := hsp; obtain ⟨k1, k2⟩ := kept6 hz4 hd4 S6; exact ⟨_, _, k1, q6 _ k2 upd_same⟩
        | ret v => obtain ⟨v6, σ6, H6, S6, r6, q6⟩ := hsp; obtain ⟨k1, k2⟩ := kept6 hz4 hd4 S6; exact ⟨_, _, _, k1, r6, q6 _ k2 upd_same⟩
      | @hitAs x n i c np pos b₀ suite hds hN hi hln hc hx q =>
        intro h fl u
        obtain ⟨J, oe, hz, hd, he, S⟩ := fac h fl u
        refine wpAny_handleBy_cons (codeAny_handlers_test ?_) (by intro q; cases q)
        have LT : PySem.W.Looks (model X.prog X.w) h (typeOf (.ref a)) cls := fun A Q E s k q => wpAny_typeOf_ref (k _ _ he) (by rw [hz.1]; exact q)
        refine tst_name hc S ((PySem.W.exm_one (M := model X.prog X.w) J.kIn LT hx).here ?_)
        refine codeAny_handlers_suite_as (HandSPX.lands_againZ fl fun h4 fl4 up4 => ?_)
        obtain ⟨J4, oe4, hz4, hd4, he4, S4⟩ := fac h4 fl4 (u.trans up4)
        have hloc : Loc X.env.scope n := .inl hln
        refine store_ok (X := X.suite a ((a, oe4) :: (X.pn ++ pins))) (v := .ref a) S4 hN hi hloc rfl (fun s5 S5 => ?_) (.inr hln)
        refine wpAny_mono ((q a oe4 (X.pn ++ pins) na hz4 hd4).run [] s5 S5) (fun f s6 hsp => ?_) fun _ _ z => False.elim z
        cases f with
        | next => obtain ⟨σ6, H6, S6, q6⟩ := hsp; obtain ⟨k1, k2⟩ := kept6 hz4 hd4 S6; exact gone_ok k1 hN hi hln fun s7 J7 => ⟨_, _, J7, q6 _ k2 upd_same⟩
        | brk => obtain ⟨σ6, H6, S6, q6⟩ := hsp; obtain ⟨k1, k2⟩ := kept6 hz4 hd4 S6; exact gone_ok k1 hN hi hln fun s7 J7 => ⟨_, _, J7, q6 _ k2 upd_same⟩
        | cont => obtain ⟨σ6, H6, S6, q6⟩ := hsp; obtain ⟨k1, k2⟩ := kept6 hz4 hd4 S6; exact gone_ok k1 hN hi hln fun s7 J7 => ⟨_, _, J7, q6 _ k2 upd_same⟩
        | ret v => obtain ⟨v6, σ6, H6, S6, r6, q6⟩ := hsp; obtain ⟨k1, k2⟩ := kept6 hz4 hd4 S6; exact gone_ok k1 hN hi hln fun s7 J7 => ⟨_, _, _, J7, r6, q6 _ k2 upd_same⟩
    exact go (hw cls d σ' H' w) h3 fl3 (up.trans up3)
  · cases f with
    | next => obtain ⟨σ2, H2, J2, q⟩ := hsp; exact q.run pins s1 (J2.ofTry ok)
    | brk => obtain ⟨σ2, H2, J2, q⟩ := hsp; exact ⟨σ2, H2, J2.ofTry ok, q⟩
    | cont => obtain ⟨σ2, H2, J2, q⟩ := hsp; exact ⟨σ2, H2, J2.ofTry ok, q⟩
    | ret v => obtain ⟨v, σ2, H2, J2, r, q⟩ := hsp; exact ⟨v, σ2, H2, J2.ofTry ok, r, q⟩
section
variable {X : Cx} {H : Hp} {Q : VK} {x y : Str} {a C E : Addr} {b : Bool} {mg : Str → Option Value}
theorem instK {pins : List (Addr × Obj)} {σ : L2.St} {s : Shared} (I : Inv X pins σ H s) (hk : H a = some (ExK (.ref E) none a)) : ∃ oe, PySem.W.InstAt s.heap a oe E none := by
  obtain ⟨⟨oe, vs, e, z, hv⟩, _⟩ : ObjOk X.prog X.w H s.heap a (ExK (.ref E) none a) := I.hok a _ hk
  refine ⟨oe, ?_⟩
  obtain ⟨oc, od, oda, osl⟩ := oe
  obtain ⟨h1, h2⟩ := z
  dsimp only at h1 h2 hv
  subst h1 h2 hv
  exact ⟨e, rfl, rfl, trivial⟩
/-- isinstance(e, C), e an exception that was caught and kept -/
theorem k_isK (TD : ExcF X.K mg x E) (TC : ExcF X.K mg y C) (hk : H a = some (ExK (.ref E) none a)) (h : PySem.W.subIn X.K (.ref E) (.ref C) = some b) (q : Q (.bl b) H) : kW X (.builtin "isinstance") [.ref a, .ref C] H Q := by
  refine ⟨fun pins s σ us I r => ?_⟩
  cases r with
  | cons rx rr =>
    cases rr with
    | cons rt rr =>
      cases rr; cases rx; cases rt
      obtain ⟨oe, J⟩ := instK I hk
      have K := TD.excC
      exact PySem.W.kia_one (PySem.W.handS_kitx_exc K.hg K.hk K.hs K.hd K.ha K.hn K.ht K.hm) I.kIn J (TD.kit TC h) (fun z => nomatch z) fun tk => ⟨.bl b, H, I.kept (t' := tk) fun _ _ z => z, rfl, q⟩
theorem k_isKV (TD : ExcF X.K mg x E) (hk : H a = some (ExK (.ref E) none a)) (q : Q (.bl true) H) : kW X (.builtin "isinstance") [.ref a, .ty "ValueError"] H Q := by
  refine ⟨fun pins s σ us I r => ?_⟩
  cases r with
  | cons rx rr =>
    cases rr with
    | cons rt rr =>
      cases rr; cases rx; cases rt
      obtain ⟨oe, J⟩ := instK I hk
      have K := TD.excC
      exact PySem.W.kia_one (PySem.W.handS_kitx_exc K.hg K.hk K.hs K.hd K.ha K.hn K.ht K.hm) I.kIn J TD.kitVE (fun z => nomatch z) fun tk => ⟨.bl true, H, I.kept (t' := tk) fun _ _ z => z, rfl, q⟩
end
/-! ### words that want that a token was given out; replace -/
structure eT (X : Cx) (e : Expr) (σ : L2.St) (H : Hp) (Q : VK) : Prop where
  run : ∀ pins s, 1 ≤ s.toks → Inv X pins σ H s → wpAny (model X.prog X.w) X.A (eval e X.env) (EP X pins σ Q) X.xe s
structure aT (X : Cx) (es : List Expr) (σ : L2.St) (H : Hp) (Q : List V → Hp → Prop) : Prop where
  run : ∀ pos pins s, 1 ≤ s.toks → Inv X pins σ H s → wpAny (model X.prog X.w) X.A (spliced (backTo pos (starEach es X.env))) (AP X pins σ Q) X.xe s
section
variable {X : Cx} {σ : L2.St} {H : Hp} {Q : VK} {R : List V → Hp → Prop} {pos p2 apos : Pos} {a o : Expr} {es : List Expr} {c y z : Str} {j k : Nat} {c0 c1 : Pos}
theorem eT_of (h : eW X a σ H Q) : eT X a σ H Q := ⟨fun pins s _ I => h.run pins s I⟩
theorem aT_of (h : aW X es σ H R) : aT X es σ H R := ⟨fun pos pins s _ I => h.run pos pins s I⟩
theorem aT_cons (h : eT X a σ H fun x H1 => aT X es σ H1 fun xs H2 => R (x :: xs) H2) (hs : starEach (a :: es) X.env = (false, eval a X.env) :: starEach es X.env := by rfl) : aT X (a :: es) σ H R := ⟨fun pos pins s ht I => by
  rw [hs]
  show wpAny _ _ (spliced ((false, eval a X.env) :: backTo pos (starEach es X.env))) _ _ s
  exact Calls.spliced_cons (wpAny_mono (PySem.wpAny_toks (h.run pins s ht I)) (fun u s1 ⟨hk, x, H1, I1, r1, q1⟩ => wpAny_mono (q1.run pos pins s1 (Nat.le_trans ht hk) I1) (fun us s2 ⟨xs, H2, I2, r2, q2⟩ => ⟨x :: xs, H2, I2, .cons r1 r2, q2⟩) fun _ _ w => w) fun _ _ w => w.2)⟩
theorem a_binS {op : Operator} (h : eW X a σ H fun x H1 => oW X (binaryOp op) x (.str c) H1 fun v H2 => aT X es σ H2 fun xs H3 => R (v :: xs) H3)
    (hs : starEach (.BinOp a op (.Constant (.str c) j p2) pos :: es) X.env = (false, eval (.BinOp a op (.Constant (.str c) j p2) pos) X.env) :: starEach es X.env := by rfl) : aW X (.BinOp a op (.Constant (.str c) j p2) pos :: es) σ H R := ⟨fun pos2 pins s I => by
  rw [hs]
  show wpAny _ _ (spliced ((false, eval _ X.env) :: backTo pos2 (starEach es X.env))) _ _ s
  exact Calls.spliced_cons (wpAny_BinOp (thn (h.run pins s I) fun v s1 ⟨x, H1, I1, r1, q1⟩ => Calls.Constant_str (wpAny_mono (PySem.wpAny_toks (q1.run pins _ σ v _ (I1.tok (s1.toks + 1)) r1 ⟨s1.toks, rfl⟩)) (fun u s3 ⟨hk, w, H3, I3, r3, q3⟩ =>
    wpAny_mono (q3.run pos2 pins s3 (Nat.le_trans (Nat.le_add_left 1 _) hk) I3) (fun us s4 ⟨xs, H4, I4, r4, q4⟩ => ⟨w :: xs, H4, I4, .cons r3 r4, q4⟩) fun _ _ w => w) fun _ _ w => w.2)))⟩
theorem eT_repl (h : eW X o σ H fun v H1 => ∃ x, v = .str x ∧ x.length + (x.length + 1) * z.length ≤ 16777216 ∧ Q (.str (Txt.replace x y z)) H1) (hyz : (y == z) = false := by decide)
    (hst : starEach [.Constant (.str y) j c0, .Constant (.str z) k c1] X.env = [(false, eval (.Constant (.str y) j c0) X.env), (false, eval (.Constant (.str z) k c1) X.env)] := by rfl)
    (hbase : attributeBase o "replace" X.env (eval o X.env) = eval o X.env := by rfl) (hline : (apos.endLine == pos.line) = true := by rfl) : eT X (.Call (.Attribute o "replace" apos) [.Constant (.str y) j c0, .Constant (.str z) k c1] [] pos) σ H Q :=
  ⟨fun pins s ht I => CwR.pet_replC PEw hyz hst hbase hline pins s σ H Q ht I h⟩
theorem e_lower (h : eW X o σ H fun v H1 => ∃ x, v = .str x ∧ x.length ≤ 5592405 ∧ Q (.str (Txt.lower x)) H1) (hbase : attributeBase o "lower" X.env (eval o X.env) = eval o X.env := by rfl) (hline : (apos.endLine == pos.line) = true := by rfl) : eW X (.Call (.Attribute o "lower" apos) [] [] pos) σ H Q :=
  eI (pe_lower PEw hbase hline) (eMono h fun v H1 ⟨x, e, hz, q⟩ => ⟨⟨x, e⟩, x, e, rfl, hz, q⟩)
end
section
variable {X : Cx} {σ : L2.St} {H : Hp} {Q : VK} {D : Ends} {e : Expr} {es : List Expr} {st : Stmt} {b : List Stmt} {R : Bool → Hp → Prop} {U : List V → Hp → Prop} {x y : V} {f : Value → Value → Sem Value} {g : Value} {xs : List V}
theorem is_e (h : eW X e σ H Q) : eW X e σ H Q := h
theorem is_o (h : oW X f x y H Q) : oW X f x y H Q := h
theorem is_k (h : kW X g xs H Q) : kW X g xs H Q := h
theorem is_i (h : iW X x y H Q) : iW X x y H Q := h
theorem is_a (h : aW X es σ H U) : aW X es σ H U := h
theorem is_s (h : sW X st D σ H) : sW X st D σ H := h
theorem is_b (h : bW X b D σ H) : bW X b D σ H := h
theorem is_t (h : tW X e σ H R) : tW X e σ H R := h
theorem is_c (h : cW X e σ H R) : cW X e σ H R := h
theorem is_p {e : Option Expr} {q : Option Int → Hp → Prop} (h : pW X e σ H q) : pW X e σ H q := h
theorem is_g {v : V} {q : L2.St → Hp → Prop} (h : gW X e v σ H q) : gW X e v σ H q := h
theorem is_ite {p : Prop} {d : Decidable p} {A B : Prop} (h : @ite Prop p d A B) : @ite Prop p d A B := h
end
end G

namespace Lw
open PySem PySem.Spec PyProof.Rows L2 TL G
local macro_rules | `(tactic| walk_at "o") => `(tactic| (refine is_o ?_; first
  | refine o_add ?_ | refine o_sub ?_ | refine o_mod (by decide) ?_ | refine o_div ⟨by decide, by decide⟩ ?_ | refine o_eqI ?_ | refine o_neI ?_ | refine o_eqS ?_ | refine o_neS ?_ | refine o_lt ?_ | refine o_le ?_ | refine o_gt ?_ | refine o_ge ?_
  | refine o_p60 ?_ | refine o_p30 ?_ | refine o_pow ⟨by decide, by decide, by decide⟩ ?_ | refine o_leS ?_ | refine o_ltS ?_ | refine o_inC ?_ | refine o_niC ?_ | refine o_eqB ?_ | refine o_neB ?_))
local macro_rules | `(tactic| walk_at "e") => `(tactic| (refine is_e ?_; first
  | refine e_var rfl ?_ | refine e_int ?_ | refine e_str ?_ | refine e_bl ?_ | refine e_non ?_
  | refine e_bin ?_ | refine e_slice ?_ | refine e_ix ?_ | refine e_isN ?_ | refine e_notN ?_ | refine e_cmp ?_ | refine e_callB ?_ | refine e_callTy ?_ | refine e_globR ?_ | refine e_globI ?_ | refine e_globS ?_ | refine e_ty ?_ | refine e_neg ?_ | refine e_not ?_ | refine e_one ?_ | refine e_ifE ?_ | refine e_tupN ?_ | refine e_lstN ?_ | refine e_dct0 ?_))
local macro_rules | `(tactic| walk_at "s") => `(tactic| (refine is_s ?_; first
  | refine s_set ?_ | refine s_if ?_ | refine s_ret ?_ | refine s_expr ?_ | refine s_retN ?_ | refine s_brk ?_ | refine s_cont ?_ | refine s_pass ?_))
local macro_rules | `(tactic| walk_at "t") => `(tactic| (refine is_t ?_; first
  | refine t_isN ?_ | refine t_notN ?_ | refine t_cmp ?_ | refine t_chain ?_ | refine t_not ?_ | refine t_and ?_ | refine t_or ?_ | refine t_val ?_))
local macro_rules | `(tactic| walk_at "w1") => `(tactic| first
  | walk_at "e" | walk_at "o" | (refine is_a ?_; first | refine a_cons ?_ | refine a_nil ?_) | (refine is_b ?_; first | refine b_cons ?_ | refine b_nil ?_) | (refine is_p ?_; first | refine p_none ?_ | refine p_some ?_) | walk_at "s" | walk_at "t" | (refine is_c ?_; first | refine c_and1 ?_ | refine c_or1 ?_ | refine c_and ?_ | refine c_or ?_) | (refine is_g ?_; refine g_name ?_) | (refine is_ite ?_; first | refine iteT ?_ | refine iteF ?_)
  | (refine is_k ?_; first | refine k_min ?_ | refine k_max ?_ | refine k_ordC ?_)
  | refine ⟨rfl, ?_⟩ | refine ⟨_, rfl, ?_⟩ | refine ⟨_, _, rfl, ?_⟩ | refine ⟨_, _, _, rfl, ?_⟩ | refine ⟨_, _, rfl, rfl, ?_⟩ | refine ⟨_, _, _, rfl, rfl, rfl, ?_⟩ | refine ⟨_, _, _, _, rfl, ?_⟩ | refine ⟨_, _, _, _, _, rfl, ?_⟩ | refine ⟨_, _, _, _, _, _, rfl, ?_⟩)
local macro_rules | `(tactic| walk_at "w") => `(tactic| repeat walk_at "w1")

def top (i : Nat) : Stmt := PySem.Challenge.pw_forestread_k81_rules_read.main.body.getD i (.Pass ⟨0, 0, 0, 0⟩)
abbrev s_is_whole : Stmt := top 7
theorem sc_is_whole : FnScope ["thing"] ["thing"] (defScope s_is_whole) := ⟨rfl, rfl, rfl, by decide +kernel, rfl, by decide +kernel, by decide +kernel⟩
instance : NdN ["thing"] := ⟨sc_is_whole.nd⟩
abbrev X_is_whole (P : Program) (w : World) (K : PySem.W.Frag) (mg : Str → Option Value) (base : Heap) (f : Addr) (cdv : Value) (A : Around) (outer : List Env) (s : Shared) (H : Hp) (E : XK) : Cx := cxr P w K mg base ["thing"] "is_whole" s_is_whole f cdv A outer s H E
abbrev s_may_stand : Stmt := top 8
theorem sc_may_stand : FnScope ["sign"] ["sign"] (defScope s_may_stand) := ⟨rfl, rfl, rfl, by decide +kernel, rfl, by decide +kernel, by decide +kernel⟩
instance : NdN ["sign"] := ⟨sc_may_stand.nd⟩
abbrev X_may_stand (P : Program) (w : World) (K : PySem.W.Frag) (mg : Str → Option Value) (base : Heap) (f : Addr) (cdv : Value) (A : Around) (outer : List Env) (s : Shared) (H : Hp) (E : XK) : Cx := cxr P w K mg base ["sign"] "may_stand" s_may_stand f cdv A outer s H E
abbrev s_is_sign : Stmt := top 9
theorem sc_is_sign : FnScope ["thing"] ["thing"] (defScope s_is_sign) := ⟨rfl, rfl, rfl, by decide +kernel, rfl, by decide +kernel, by decide +kernel⟩
instance : NdN ["thing"] := ⟨sc_is_sign.nd⟩
abbrev X_is_sign (P : Program) (w : World) (K : PySem.W.Frag) (mg : Str → Option Value) (base : Heap) (f : Addr) (cdv : Value) (A : Around) (outer : List Env) (s : Shared) (H : Hp) (E : XK) : Cx := cxr P w K mg base ["thing"] "is_sign" s_is_sign f cdv A outer s H E
abbrev s_is_name : Stmt := top 10
theorem sc_is_name : FnScope ["thing", "sign"] ["thing"] (defScope s_is_name) := ⟨rfl, rfl, rfl, by decide +kernel, rfl, by decide +kernel, by decide +kernel⟩
instance : NdN ["thing", "sign"] := ⟨sc_is_name.nd⟩
abbrev X_is_name (P : Program) (w : World) (K : PySem.W.Frag) (mg : Str → Option Value) (base : Heap) (f : Addr) (cdv : Value) (A : Around) (outer : List Env) (s : Shared) (H : Hp) (E : XK) : Cx := cxr P w K mg base ["thing", "sign"] "is_name" s_is_name f cdv A outer s H E
abbrev s_are_parts : Stmt := top 14
theorem sc_are_parts : FnScope ["thing", "part"] ["thing"] (defScope s_are_parts) := ⟨rfl, rfl, rfl, by decide +kernel, rfl, by decide +kernel, by decide +kernel⟩
instance : NdN ["thing", "part"] := ⟨sc_are_parts.nd⟩
abbrev X_are_parts (P : Program) (w : World) (K : PySem.W.Frag) (mg : Str → Option Value) (base : Heap) (f : Addr) (cdv : Value) (A : Around) (outer : List Env) (s : Shared) (H : Hp) (E : XK) : Cx := cxr P w K mg base ["thing", "part"] "are_parts" s_are_parts f cdv A outer s H E
abbrev s_is_rule : Stmt := top 15
theorem sc_is_rule : FnScope ["thing"] ["thing"] (defScope s_is_rule) := ⟨rfl, rfl, rfl, by decide +kernel, rfl, by decide +kernel, by decide +kernel⟩
instance : NdN ["thing"] := ⟨sc_is_rule.nd⟩
abbrev X_is_rule (P : Program) (w : World) (K : PySem.W.Frag) (mg : Str → Option Value) (base : Heap) (f : Addr) (cdv : Value) (A : Around) (outer : List Env) (s : Shared) (H : Hp) (E : XK) : Cx := cxr P w K mg base ["thing"] "is_rule" s_is_rule f cdv A outer s H E
abbrev s_read_figures : Stmt := top 19
theorem sc_read_figures : FnScope ["word", "sign"] ["word"] (defScope s_read_figures) := ⟨rfl, rfl, rfl, by decide +kernel, rfl, by decide +kernel, by decide +kernel⟩
instance : NdN ["word", "sign"] := ⟨sc_read_figures.nd⟩
abbrev X_read_figures (P : Program) (w : World) (K : PySem.W.Frag) (mg : Str → Option Value) (base : Heap) (f : Addr) (cdv : Value) (A : Around) (outer : List Env) (s : Shared) (H : Hp) (E : XK) : Cx := cxr P w K mg base ["word", "sign"] "read_figures" s_read_figures f cdv A outer s H E
abbrev s_read_part : Stmt := top 20
theorem sc_read_part : FnScope ["word"] ["word"] (defScope s_read_part) := ⟨rfl, rfl, rfl, by decide +kernel, rfl, by decide +kernel, by decide +kernel⟩
instance : NdN ["word"] := ⟨sc_read_part.nd⟩
abbrev X_read_part (P : Program) (w : World) (K : PySem.W.Frag) (mg : Str → Option Value) (base : Heap) (f : Addr) (cdv : Value) (A : Around) (outer : List Env) (s : Shared) (H : Hp) (E : XK) : Cx := cxr P w K mg base ["word"] "read_part" s_read_part f cdv A outer s H E
abbrev s_read_rule : Stmt := top 21
theorem sc_read_rule : FnScope ["text", "words", "rule", "word"] ["text"] (defScope s_read_rule) := ⟨rfl, rfl, rfl, by decide +kernel, rfl, by decide +kernel, by decide +kernel⟩
instance : NdN ["text", "words", "rule", "word"] := ⟨sc_read_rule.nd⟩
abbrev X_read_rule (P : Program) (w : World) (K : PySem.W.Frag) (mg : Str → Option Value) (base : Heap) (f : Addr) (cdv : Value) (A : Around) (outer : List Env) (s : Shared) (H : Hp) (E : XK) : Cx := cxr P w K mg base ["text", "words", "rule", "word"] "read_rule" s_read_rule f cdv A outer s H E
abbrev s_law_cell_at : Stmt := top 23
theorem sc_law_cell_at : FnScope ["_law_script", "_law_k"] ["_law_script", "_law_k"] (defScope s_law_cell_at) := ⟨rfl, rfl, rfl, by decide +kernel, rfl, by decide +kernel, by decide +kernel⟩
instance : NdN ["_law_script", "_law_k"] := ⟨sc_law_cell_at.nd⟩
abbrev X_law_cell_at (P : Program) (w : World) (K : PySem.W.Frag) (mg : Str → Option Value) (base : Heap) (f : Addr) (cdv : Value) (A : Around) (outer : List Env) (s : Shared) (H : Hp) (E : XK) : Cx := cxr P w K mg base ["_law_script", "_law_k"] "_law_cell_at" s_law_cell_at f cdv A outer s H E
abbrev s_law_sign : Stmt := top 24
theorem sc_law_sign : FnScope ["_law_cell", "_law_some"] ["_law_cell"] (defScope s_law_sign) := ⟨rfl, rfl, rfl, by decide +kernel, rfl, by decide +kernel, by decide +kernel⟩
instance : NdN ["_law_cell", "_law_some"] := ⟨sc_law_sign.nd⟩
abbrev X_law_sign (P : Program) (w : World) (K : PySem.W.Frag) (mg : Str → Option Value) (base : Heap) (f : Addr) (cdv : Value) (A : Around) (outer : List Env) (s : Shared) (H : Hp) (E : XK) : Cx := cxr P w K mg base ["_law_cell", "_law_some"] "_law_sign" s_law_sign f cdv A outer s H E
abbrev s_law_name : Stmt := top 25
theorem sc_law_name : FnScope ["_law_cell", "_law_big", "_law_name_here", "_law_k"] ["_law_cell"] (defScope s_law_name) := ⟨rfl, rfl, rfl, by decide +kernel, rfl, by decide +kernel, by decide +kernel⟩
instance : NdN ["_law_cell", "_law_big", "_law_name_here", "_law_k"] := ⟨sc_law_name.nd⟩
abbrev X_law_name (P : Program) (w : World) (K : PySem.W.Frag) (mg : Str → Option Value) (base : Heap) (f : Addr) (cdv : Value) (A : Around) (outer : List Env) (s : Shared) (H : Hp) (E : XK) : Cx := cxr P w K mg base ["_law_cell", "_law_big", "_law_name_here", "_law_k"] "_law_name" s_law_name f cdv A outer s H E
abbrev s_law_part : Stmt := top 26
theorem sc_law_part : FnScope ["_law_cell"] ["_law_cell"] (defScope s_law_part) := ⟨rfl, rfl, rfl, by decide +kernel, rfl, by decide +kernel, by decide +kernel⟩
instance : NdN ["_law_cell"] := ⟨sc_law_part.nd⟩
abbrev X_law_part (P : Program) (w : World) (K : PySem.W.Frag) (mg : Str → Option Value) (base : Heap) (f : Addr) (cdv : Value) (A : Around) (outer : List Env) (s : Shared) (H : Hp) (E : XK) : Cx := cxr P w K mg base ["_law_cell"] "_law_part" s_law_part f cdv A outer s H E
abbrev s_law_worth : Stmt := top 27
theorem sc_law_worth : FnScope ["_law_cell"] ["_law_cell"] (defScope s_law_worth) := ⟨rfl, rfl, rfl, by decide +kernel, rfl, by decide +kernel, by decide +kernel⟩
instance : NdN ["_law_cell"] := ⟨sc_law_worth.nd⟩
abbrev X_law_worth (P : Program) (w : World) (K : PySem.W.Frag) (mg : Str → Option Value) (base : Heap) (f : Addr) (cdv : Value) (A : Around) (outer : List Env) (s : Shared) (H : Hp) (E : XK) : Cx := cxr P w K mg base ["_law_cell"] "_law_worth" s_law_worth f cdv A outer s H E
abbrev s_law_rule : Stmt := top 28
theorem sc_law_rule : FnScope ["_law_script", "_law_at", "_law_size", "_law_parts", "_law_k"] ["_law_script", "_law_at"] (defScope s_law_rule) := ⟨rfl, rfl, rfl, by decide +kernel, rfl, by decide +kernel, by decide +kernel⟩
instance : NdN ["_law_script", "_law_at", "_law_size", "_law_parts", "_law_k"] := ⟨sc_law_rule.nd⟩
abbrev X_law_rule (P : Program) (w : World) (K : PySem.W.Frag) (mg : Str → Option Value) (base : Heap) (f : Addr) (cdv : Value) (A : Around) (outer : List Env) (s : Shared) (H : Hp) (E : XK) : Cx := cxr P w K mg base ["_law_script", "_law_at", "_law_size", "_law_parts", "_law_k"] "_law_rule" s_law_rule f cdv A outer s H E
abbrev s_law_written : Stmt := top 29
theorem sc_law_written : FnScope ["_law_rule_here", "_law_text", "_law_part_here"] ["_law_rule_here"] (defScope s_law_written) := ⟨rfl, rfl, rfl, by decide +kernel, rfl, by decide +kernel, by decide +kernel⟩
instance : NdN ["_law_rule_here", "_law_text", "_law_part_here"] := ⟨sc_law_written.nd⟩
abbrev X_law_written (P : Program) (w : World) (K : PySem.W.Frag) (mg : Str → Option Value) (base : Heap) (f : Addr) (cdv : Value) (A : Around) (outer : List Env) (s : Shared) (H : Hp) (E : XK) : Cx := cxr P w K mg base ["_law_rule_here", "_law_text", "_law_part_here"] "_law_written" s_law_written f cdv A outer s H E
abbrev s_law_alike : Stmt := top 30
theorem sc_law_alike : FnScope ["_law_found", "_law_due_here", "_law_part_here"] ["_law_found", "_law_due_here"] (defScope s_law_alike) := ⟨rfl, rfl, rfl, by decide +kernel, rfl, by decide +kernel, by decide +kernel⟩
instance : NdN ["_law_found", "_law_due_here", "_law_part_here"] := ⟨sc_law_alike.nd⟩
abbrev X_law_alike (P : Program) (w : World) (K : PySem.W.Frag) (mg : Str → Option Value) (base : Heap) (f : Addr) (cdv : Value) (A : Around) (outer : List Env) (s : Shared) (H : Hp) (E : XK) : Cx := cxr P w K mg base ["_law_found", "_law_due_here", "_law_part_here"] "_law_alike" s_law_alike f cdv A outer s H E
abbrev s_law_figures : Stmt := top 31
theorem sc_law_figures : FnScope ["_law_word", "_law_sign_here"] ["_law_word"] (defScope s_law_figures) := ⟨rfl, rfl, rfl, by decide +kernel, rfl, by decide +kernel, by decide +kernel⟩
instance : NdN ["_law_word", "_law_sign_here"] := ⟨sc_law_figures.nd⟩
abbrev X_law_figures (P : Program) (w : World) (K : PySem.W.Frag) (mg : Str → Option Value) (base : Heap) (f : Addr) (cdv : Value) (A : Around) (outer : List Env) (s : Shared) (H : Hp) (E : XK) : Cx := cxr P w K mg base ["_law_word", "_law_sign_here"] "_law_figures" s_law_figures f cdv A outer s H E
abbrev s_law_is_name : Stmt := top 32
theorem sc_law_is_name : FnScope ["_law_word", "_law_sign_here"] ["_law_word"] (defScope s_law_is_name) := ⟨rfl, rfl, rfl, by decide +kernel, rfl, by decide +kernel, by decide +kernel⟩
instance : NdN ["_law_word", "_law_sign_here"] := ⟨sc_law_is_name.nd⟩
abbrev X_law_is_name (P : Program) (w : World) (K : PySem.W.Frag) (mg : Str → Option Value) (base : Heap) (f : Addr) (cdv : Value) (A : Around) (outer : List Env) (s : Shared) (H : Hp) (E : XK) : Cx := cxr P w K mg base ["_law_word", "_law_sign_here"] "_law_is_name" s_law_is_name f cdv A outer s H E
abbrev s_law_due : Stmt := top 33
theorem sc_law_due : FnScope ["_law_text", "_law_words", "_law_worth_here", "_law_parts", "_law_word"] ["_law_text"] (defScope s_law_due) := ⟨rfl, rfl, rfl, by decide +kernel, rfl, by decide +kernel, by decide +kernel⟩
instance : NdN ["_law_text", "_law_words", "_law_worth_here", "_law_parts", "_law_word"] := ⟨sc_law_due.nd⟩
abbrev X_law_due (P : Program) (w : World) (K : PySem.W.Frag) (mg : Str → Option Value) (base : Heap) (f : Addr) (cdv : Value) (A : Around) (outer : List Env) (s : Shared) (H : Hp) (E : XK) : Cx := cxr P w K mg base ["_law_text", "_law_words", "_law_worth_here", "_law_parts", "_law_word"] "_law_due" s_law_due f cdv A outer s H E
abbrev s_law_spoilt : Stmt := top 34
theorem sc_law_spoilt : FnScope ["_law_text", "_law_cell", "_law_signs", "_law_at", "_law_more"] ["_law_text", "_law_cell"] (defScope s_law_spoilt) := ⟨rfl, rfl, rfl, by decide +kernel, rfl, by decide +kernel, by decide +kernel⟩
instance : NdN ["_law_text", "_law_cell", "_law_signs", "_law_at", "_law_more"] := ⟨sc_law_spoilt.nd⟩
abbrev X_law_spoilt (P : Program) (w : World) (K : PySem.W.Frag) (mg : Str → Option Value) (base : Heap) (f : Addr) (cdv : Value) (A : Around) (outer : List Env) (s : Shared) (H : Hp) (E : XK) : Cx := cxr P w K mg base ["_law_text", "_law_cell", "_law_signs", "_law_at", "_law_more"] "_law_spoilt" s_law_spoilt f cdv A outer s H E
abbrev s_law_odd : Stmt := top 35
theorem sc_law_odd : FnScope ["_law_rule_here", "_law_tail", "_law_some", "_law_lines", "_law_word"] ["_law_rule_here"] (defScope s_law_odd) := ⟨rfl, rfl, rfl, by decide +kernel, rfl, by decide +kernel, by decide +kernel⟩
instance : NdN ["_law_rule_here", "_law_tail", "_law_some", "_law_lines", "_law_word"] := ⟨sc_law_odd.nd⟩
abbrev X_law_odd (P : Program) (w : World) (K : PySem.W.Frag) (mg : Str → Option Value) (base : Heap) (f : Addr) (cdv : Value) (A : Around) (outer : List Env) (s : Shared) (H : Hp) (E : XK) : Cx := cxr P w K mg base ["_law_rule_here", "_law_tail", "_law_some", "_law_lines", "_law_word"] "_law_odd" s_law_odd f cdv A outer s H E
abbrev s_law_refused : Stmt := top 36
theorem sc_law_refused : FnScope ["_law_text", "_law_kept", "e"] ["_law_text"] (defScope s_law_refused) := ⟨rfl, rfl, rfl, by decide +kernel, rfl, by decide +kernel, by decide +kernel⟩
instance : NdN ["_law_text", "_law_kept", "e"] := ⟨sc_law_refused.nd⟩
abbrev X_law_refused (P : Program) (w : World) (K : PySem.W.Frag) (mg : Str → Option Value) (base : Heap) (f : Addr) (cdv : Value) (A : Around) (outer : List Env) (s : Shared) (H : Hp) (E : XK) : Cx := cxr P w K mg base ["_law_text", "_law_kept", "e"] "_law_refused" s_law_refused f cdv A outer s H E
abbrev s_law_right : Stmt := top 37
theorem sc_law_right : FnScope ["_law_text", "_law_due_here"] ["_law_text"] (defScope s_law_right) := ⟨rfl, rfl, rfl, by decide +kernel, rfl, by decide +kernel, by decide +kernel⟩
instance : NdN ["_law_text", "_law_due_here"] := ⟨sc_law_right.nd⟩
abbrev X_law_right (P : Program) (w : World) (K : PySem.W.Frag) (mg : Str → Option Value) (base : Heap) (f : Addr) (cdv : Value) (A : Around) (outer : List Env) (s : Shared) (H : Hp) (E : XK) : Cx := cxr P w K mg base ["_law_text", "_law_due_here"] "_law_right" s_law_right f cdv A outer s H E
abbrev s_law : Stmt := top 38
theorem sc_law : FnScope ["_law_script", "_law_rule_here", "_law_text", "_law_cell", "_law_line", "_law_thing"] ["_law_script"] (defScope s_law) := ⟨rfl, rfl, rfl, by decide +kernel, rfl, by decide +kernel, by decide +kernel⟩
instance : NdN ["_law_script", "_law_rule_here", "_law_text", "_law_cell", "_law_line", "_law_thing"] := ⟨sc_law.nd⟩
abbrev X_law (P : Program) (w : World) (K : PySem.W.Frag) (mg : Str → Option Value) (base : Heap) (f : Addr) (cdv : Value) (A : Around) (outer : List Env) (s : Shared) (H : Hp) (E : XK) : Cx := cxr P w K mg base ["_law_script", "_law_rule_here", "_law_text", "_law_cell", "_law_line", "_law_thing"] "law" s_law f cdv A outer s H E
structure Cs where
  z : Addr := 0
  ForestError : Addr
  NoGrammar : Addr
  NoText : Addr
  NoRow : Addr
  NoRule : Addr
structure Txt (K : PySem.W.Frag) (mg : Str → Option Value) (cs : Cs) : Prop where
  b_ValueError : Gn mg "ValueError" none
  b_bool : Gn mg "bool" none
  b_int : Gn mg "int" none
  b_isinstance : Gn mg "isinstance" none
  b_len : Gn mg "len" none
  b_ord : Gn mg "ord" none
  b_range : Gn mg "range" none
  b_str : Gn mg "str" none
  b_tuple : Gn mg "tuple" none
  k_MOST_PARTS : ∃ t, mg "MOST_PARTS" = some (.int (6) t)
  k_MOST_WORTH : ∃ t, mg "MOST_WORTH" = some (.int (1000000000000000000000000000000000000000000000000000000000000) t)
  k_FIGURES : ∃ t, mg "FIGURES" = some (.str ("0123456789") t)
  k_MOST_FIGURES : ∃ t, mg "MOST_FIGURES" = some (.int (61) t)
  x_ForestError : ExcF K mg "ForestError" cs.ForestError
  x_NoGrammar : ExcF K mg "NoGrammar" cs.NoGrammar
  x_NoText : ExcF K mg "NoText" cs.NoText
  x_NoRow : ExcF K mg "NoRow" cs.NoRow
  x_NoRule : ExcF K mg "NoRule" cs.NoRule
  s_NoRule_ForestError : PySem.W.subIn K (.ref cs.NoRule) (.ref cs.ForestError) = some true
  s_NoRule_NoGrammar : PySem.W.subIn K (.ref cs.NoRule) (.ref cs.NoGrammar) = some false
  s_NoRule_NoText : PySem.W.subIn K (.ref cs.NoRule) (.ref cs.NoText) = some false
  s_NoRule_NoRow : PySem.W.subIn K (.ref cs.NoRule) (.ref cs.NoRow) = some false
  s_NoRule_NoRule : PySem.W.subIn K (.ref cs.NoRule) (.ref cs.NoRule) = some true
  f_is_whole : At K mg "is_whole" "is_whole" s_is_whole ["thing"]
  f_may_stand : At K mg "may_stand" "may_stand" s_may_stand ["sign"]
  f_is_sign : At K mg "is_sign" "is_sign" s_is_sign ["thing"]
  f_is_name : At K mg "is_name" "is_name" s_is_name ["thing"]
  f_are_parts : At K mg "are_parts" "are_parts" s_are_parts ["thing"]
  f_is_rule : At K mg "is_rule" "is_rule" s_is_rule ["thing"]
  f_read_figures : At K mg "read_figures" "read_figures" s_read_figures ["word"]
  f_read_part : At K mg "read_part" "read_part" s_read_part ["word"]
  f_read_rule : At K mg "read_rule" "read_rule" s_read_rule ["text"]
  f_law_cell_at : At K mg "_law_cell_at" "_law_cell_at" s_law_cell_at ["_law_script", "_law_k"]
  f_law_sign : At K mg "_law_sign" "_law_sign" s_law_sign ["_law_cell"]
  f_law_name : At K mg "_law_name" "_law_name" s_law_name ["_law_cell"]
  f_law_part : At K mg "_law_part" "_law_part" s_law_part ["_law_cell"]
  f_law_worth : At K mg "_law_worth" "_law_worth" s_law_worth ["_law_cell"]
  f_law_rule : At K mg "_law_rule" "_law_rule" s_law_rule ["_law_script", "_law_at"]
  f_law_written : At K mg "_law_written" "_law_written" s_law_written ["_law_rule_here"]
  f_law_alike : At K mg "_law_alike" "_law_alike" s_law_alike ["_law_found", "_law_due_here"]
  f_law_figures : At K mg "_law_figures" "_law_figures" s_law_figures ["_law_word"]
  f_law_is_name : At K mg "_law_is_name" "_law_is_name" s_law_is_name ["_law_word"]
  f_law_due : At K mg "_law_due" "_law_due" s_law_due ["_law_text"]
  f_law_spoilt : At K mg "_law_spoilt" "_law_spoilt" s_law_spoilt ["_law_text", "_law_cell"]
  f_law_odd : At K mg "_law_odd" "_law_odd" s_law_odd ["_law_rule_here"]
  f_law_refused : At K mg "_law_refused" "_law_refused" s_law_refused ["_law_text"]
  f_law_right : At K mg "_law_right" "_law_right" s_law_right ["_law_text"]
section
variable {P : Program} {w : World} {K : PySem.W.Frag} {mg : Str → Option Value} {base : Heap} {cs : Cs}
def okc (c : Nat) : Bool := decide (32 ≤ c) && (decide (c ≤ 126) && !decide (c = 37))
def isNameS (z : Str) : Bool := (decide (1 ≤ z.length) && decide (z.length ≤ 8)) && (tl z).all fun c => decide (65 ≤ c) && decide (c ≤ 90)
def isSignL : List Nat → Bool
  | [a, c] => decide (a = 39) && okc c
  | _ => false
def isSignS (z : Str) : Bool := isSignL (tl z)
def isNameD : PyData → Bool
  | .str z => isNameS z
  | _ => false
def isSignD : PyData → Bool
  | .str z => isSignS z
  | _ => false
def isWholeD (d : PyData) : Bool := isK d "int" && !isK d "bool"
theorem no_str {d : PyData} : (∃ z, d = .str z) ∨ (isK d "str" = false ∧ isNameD d = false ∧ isSignD d = false) := by
  cases d <;> first | exact .inl ⟨_, rfl⟩ | exact .inr ⟨rfl, rfl, rfl⟩
theorem tl_str (l : List Nat) : tl (⟨l.toArray⟩ : Str) = l := rfl
theorem str_tl (z : Str) : z = ⟨(tl z).toArray⟩ := (mk_tl z).symm
theorem lo_sp (c : Nat) : (!decide (tl (⟨#[c]⟩ : Str) < tl (Str.ofString " "))) = decide (32 ≤ c) := by
  have e : tl (Str.ofString " ") = [32] := by decide +kernel
  rw [e]
  by_cases h : 32 ≤ c
  · rw [decide_eq_true h, decide_eq_false (show ¬ ([c] < [32]) from fun q => by have := (lt1 c 32).mp q; omega)]; rfl
  · rw [decide_eq_false h, decide_eq_true (show ([c] < [32]) from (lt1 c 32).mpr (by omega))]; rfl
theorem hi_ti (c : Nat) : (!decide (tl (Str.ofString "~") < tl (⟨#[c]⟩ : Str))) = decide (c ≤ 126) := by
  have e : tl (Str.ofString "~") = [126] := by decide +kernel
  rw [e]
  by_cases h : c ≤ 126
  · rw [decide_eq_true h, decide_eq_false (show ¬ ([126] < [c]) from fun q => by have := (lt1 126 c).mp q; omega)]; rfl
  · rw [decide_eq_false h, decide_eq_true (show ([126] < [c]) from (lt1 126 c).mpr (by omega))]; rfl
theorem lo_A (c : Nat) : (!decide (tl (⟨#[c]⟩ : Str) < tl (Str.ofString "A"))) = decide (65 ≤ c) := by
  have e : tl (Str.ofString "A") = [65] := by decide +kernel
  rw [e]
  by_cases h : 65 ≤ c
  · rw [decide_eq_true h, decide_eq_false (show ¬ ([c] < [65]) from fun q => by have := (lt1 c 65).mp q; omega)]; rfl
  · rw [decide_eq_false h, decide_eq_true (show ([c] < [65]) from (lt1 c 65).mpr (by omega))]; rfl
theorem hi_Z (c : Nat) : (!decide (tl (Str.ofString "Z") < tl (⟨#[c]⟩ : Str))) = decide (c ≤ 90) := by
  have e : tl (Str.ofString "Z") = [90] := by decide +kernel
  rw [e]
  by_cases h : c ≤ 90
  · rw [decide_eq_true h, decide_eq_false (show ¬ ([90] < [c]) from fun q => by have := (lt1 90 c).mp q; omega)]; rfl
  · rw [decide_eq_false h, decide_eq_true (show ([90] < [c]) from (lt1 90 c).mpr (by omega))]; rfl
theorem one_eq (a : Nat) (l : List Nat) (t : String) (h : tl (Str.ofString t) = l) : ((⟨#[a]⟩ : Str) = Str.ofString t) ↔ [a] = l := by
  constructor
  · intro e
    rw [← h, ← e]
  · intro e
    exact ext_tl (by rw [h, ← e])
theorem is_quote (a : Nat) : decide ((⟨#[a]⟩ : Str) = Str.ofString "'") = decide (a = 39) := decide_eq_decide.mpr (by rw [one_eq a [39] "'" (by decide +kernel)]; simp)
def R_is_whole (K : PySem.W.Frag) : V → Hp → VK → XK → Prop := fun x H Q _ => ∃ d, Th K H x d ∧ Q (.bl (isWholeD d)) H
theorem ok_is_whole {f : Addr} {fd : FuncData} (F : Fun K "is_whole" "is_whole" s_is_whole f fd) (T : Txt K mg cs) : FnOk P w K mg base (L2.CX P w) 1 f fd ["thing"] (sp1 (R_is_whole K)) := by
  refine F.okX sc_is_whole (fun vs H Q E h => sp1_len h) (fun cdv A outer s H vs Q E hr h => ⟨_, PBw (X := X_is_whole P w K mg base f cdv A outer s H E), ?_⟩)
  obtain ⟨a0, rfl, h⟩ := h
  have ib_isinstance := T.b_isinstance
  have ib_int := T.b_int
  have ib_bool := T.b_bool
  have hr' : Room 0 (X_is_whole P w K mg base f cdv A outer s H E).A := hr
  replace hr := hr'
  clear hr'
  obtain ⟨d, hd, h⟩ := h
  walk_at "w"
  refine e_andJ (d := !isK d "bool") ?_
  walk_at "w"
  refine k_isInt hd ⟨_, rfl, fun _ Q' q => ?_, h⟩
  walk_at "w"
  refine k_isBool hd ?_
  walk_at "w"
  exact q
theorem df_is_whole (T : Txt K mg cs) : Df P w K mg base "is_whole" 1 ["thing"] (sp1 (R_is_whole K)) := by
  obtain ⟨f, fd, hm, F, hb⟩ := T.f_is_whole.ex
  exact ⟨f, fd, hm, F.kp, hb, ok_is_whole F T⟩
def R_may_stand : V → Hp → VK → XK → Prop := fun x H Q _ => ∃ c, x = .str ⟨#[c]⟩ ∧ Q (.bl (okc c)) H
theorem ok_may_stand {f : Addr} {fd : FuncData} (F : Fun K "may_stand" "may_stand" s_may_stand f fd) (T : Txt K mg cs) : FnOk P w K mg base (L2.CX P w) 1 f fd ["sign"] (sp1 (R_may_stand)) := by
  refine F.okX sc_may_stand (fun vs H Q E h => sp1_len h) (fun cdv A outer s H vs Q E hr h => ⟨_, PBw (X := X_may_stand P w K mg base f cdv A outer s H E), ?_⟩)
  obtain ⟨a0, rfl, h⟩ := h
  have ib_ord := T.b_ord
  have hr' : Room 0 (X_may_stand P w K mg base f cdv A outer s H E).A := hr
  replace hr := hr'
  clear hr'
  obtain ⟨c, rfl, h⟩ := h
  walk_at "w"
  refine e_and ?_
  refine e_chain ?_
  walk_at "w"
  rw [lo_sp]
  refine iteD (fun c1 => ?_) fun c1 => ?_
  · walk_at "w"
    rw [hi_ti]
    refine iteD (fun c2 => ?_) fun c2 => ?_
    · walk_at "w"
      have e : okc c = !decide ((c : Int) = 37) := by
        simp only [okc, decide_eq_true c1, decide_eq_true c2, Bool.true_and]
        congr 1
        exact decide_eq_decide.mpr (by omega)
      rw [e] at h
      exact h
    · have e : okc c = false := by simp only [okc, decide_eq_false c2, Bool.false_and, Bool.and_false]
      rw [e] at h
      exact h
  · walk_at "w"
    have e : okc c = false := by simp only [okc, decide_eq_false c1, Bool.false_and]
    rw [e] at h
    exact h
theorem df_may_stand (T : Txt K mg cs) : Df P w K mg base "may_stand" 1 ["sign"] (sp1 (R_may_stand)) := by
  obtain ⟨f, fd, hm, F, hb⟩ := T.f_may_stand.ex
  exact ⟨f, fd, hm, F.kp, hb, ok_may_stand F T⟩
def R_is_sign (K : PySem.W.Frag) : V → Hp → VK → XK → Prop := fun x H Q _ => ∃ d, Th K H x d ∧ Q (.bl (isSignD d)) H
theorem ok_is_sign {f : Addr} {fd : FuncData} (F : Fun K "is_sign" "is_sign" s_is_sign f fd) (T : Txt K mg cs) : FnOk P w K mg base (L2.CX P w) 2 f fd ["thing"] (sp1 (R_is_sign K)) := by
  refine F.okX sc_is_sign (fun vs H Q E h => sp1_len h) (fun cdv A outer s H vs Q E hr h => ⟨_, PBw (X := X_is_sign P w K mg base f cdv A outer s H E), ?_⟩)
  obtain ⟨a0, rfl, h⟩ := h
  have ib_isinstance := T.b_isinstance
  have ib_str := T.b_str
  have ib_len := T.b_len
  have hr' : Room 1 (X_is_sign P w K mg base f cdv A outer s H E).A := hr
  replace hr := hr'
  clear hr'
  obtain ⟨d, hd, h⟩ := h
  walk_at "w"
  refine e_and ?_
  walk_at "w"
  refine k_isStr hd ⟨_, rfl, ?_⟩
  rcases no_str (d := d) with ⟨z, rfl⟩ | ⟨e1, _, e2⟩
  · cases hd with
    | str _ hz =>
    walk_at "w"
    refine e_and ?_
    walk_at "w"
    refine k_lenS (sz1m hz) ?_
    walk_at "w"
    generalize hl : tl z = l at *
    have hlen : z.length = l.length := by rw [len_tl, hl]
    have hs : isSignD (.str z) = isSignL l := by show isSignL (tl z) = _; rw [hl]
    rw [hs] at h
    refine iteD (fun c => ?_) fun c => ?_
    · match l, hl, hlen, h, hs with
      | [a, c'], hl, hlen, h, _ =>
        refine e_and ?_
        walk_at "w"
        refine i_str (sz1m hz) (c := a) ?_ ?_
        · rw [show z.cps.toList = [a, c'] from hl]
          rfl
        walk_at "w"
        rw [is_quote]
        refine iteD (fun c2 => ?_) fun c2 => ?_
        · walk_at "w"
          refine e_call (df_may_stand T) (hr.mono (by decide)) ?_
          walk_at "w"
          refine i_str (sz1m hz) (c := c') ?_ ?_
          · rw [show z.cps.toList = [a, c'] from hl]
            rfl
          walk_at "w"
          have e : isSignL [a, c'] = okc c' := by simp only [isSignL, decide_eq_true c2, Bool.true_and]
          rw [e] at h
          exact h
        · have e : isSignL [a, c'] = false := by simp only [isSignL, decide_eq_false c2, Bool.false_and]
          rw [e] at h
          exact h
      | [], _, hlen, _, _ => simp at hlen; omega
      | [_], _, hlen, _, _ => simp at hlen; omega
      | _ :: _ :: _ :: _, _, hlen, _, _ => simp at hlen; omega
    · have e : isSignL l = false := by
        match l, hlen with
        | [], _ => rfl
        | [_], _ => rfl
        | [_, _], hlen => simp at hlen; omega
        | _ :: _ :: _ :: _, _ => rfl
      rw [e] at h
      exact h
  · rw [e1]
    rw [e2] at h
    exact iteF h
theorem df_is_sign (T : Txt K mg cs) : Df P w K mg base "is_sign" 2 ["thing"] (sp1 (R_is_sign K)) := by
  obtain ⟨f, fd, hm, F, hb⟩ := T.f_is_sign.ex
  exact ⟨f, fd, hm, F.kp, hb, ok_is_sign F T⟩
def R_is_name (K : PySem.W.Frag) : V → Hp → VK → XK → Prop := fun x H Q _ => ∃ d, Th K H x d ∧ Q (.bl (isNameD d)) H
theorem ok_is_name {f : Addr} {fd : FuncData} (F : Fun K "is_name" "is_name" s_is_name f fd) (T : Txt K mg cs) : FnOk P w K mg base (L2.CX P w) 1 f fd ["thing"] (sp1 (R_is_name K)) := by
  refine F.okX sc_is_name (fun vs H Q E h => sp1_len h) (fun cdv A outer s H vs Q E hr h => ⟨_, PBw (X := X_is_name P w K mg base f cdv A outer s H E), ?_⟩)
  obtain ⟨a0, rfl, h⟩ := h
  have ib_isinstance := T.b_isinstance
  have ib_str := T.b_str
  have ib_len := T.b_len
  have hr' : Room 0 (X_is_name P w K mg base f cdv A outer s H E).A := hr
  replace hr := hr'
  clear hr'
  obtain ⟨d, hd, h⟩ := h
  walk_at "w"
  refine k_isStr hd ⟨_, rfl, ?_⟩
  rcases no_str (d := d) with ⟨z, rfl⟩ | ⟨e1, e2, _⟩
  · cases hd with
    | str _ hz =>
    walk_at "w"
    refine k_lenS (sz1m hz) ?_
    walk_at "w"
    have hlen : (tl z).length = z.length := (len_tl z).symm
    have hbad : ¬ (1 ≤ z.length ∧ z.length ≤ 8) → isNameD (.str z) = false := fun c => by
      show ((decide (1 ≤ z.length) && decide (z.length ≤ 8)) && _) = false
      by_cases c1 : 1 ≤ z.length <;> by_cases c2 : z.length ≤ 8 <;> simp [c1, c2]
      exact absurd ⟨c1, c2⟩ c
    refine iteD (fun c1 => ?_) fun c1 => ?_
    · walk_at "w"
      refine iteND (fun c2 => ?_) fun c2 => ?_
      · walk_at "w"
        rw [hbad (by omega)] at h
        exact h
      · have hgood : isNameD (.str z) = (tl z).all fun c => decide (65 ≤ c) && decide (c ≤ 90) := by
          show ((decide (1 ≤ z.length) && decide (z.length ≤ 8)) && _) = _
          rw [decide_eq_true (show 1 ≤ z.length by omega), decide_eq_true (show z.length ≤ 8 by omega)]
          rfl
        rw [hgood] at h
        walk_at "w"
        refine s_for (j_str ?_)
        walk_at "w"
        refine ⟨_, _, _, walk_str, fun i σ' H' => (∃ v, σ' = [some (.str z), v]) ∧ H' = H ∧ ((tl z).take i).all (fun c => decide (65 ≤ c) && decide (c ≤ 90)) = true, ⟨⟨_, rfl⟩, rfl, rfl⟩, fun _ _ _ _ _ => trivial, ?_, ?_⟩
        · rintro i x σ' H' H2 hi ⟨⟨v, rfl⟩, rfl, hall⟩ ⟨rfl, c, hc, rfl⟩
          have hc' : (tl z)[i]? = some c := by simpa [tl] using hc
          walk_at "w"
          rw [lo_A]
          refine iteD (fun d1 => ?_) fun d1 => ?_
          · walk_at "w"
            rw [hi_Z]
            refine iteND (fun d2 => ?_) fun d2 => ?_
            · walk_at "w"
              rw [all_cut hc' (by simp [d2])] at h
              exact h
            · walk_at "w"
              exact ⟨⟨_, rfl⟩, rfl, by rw [all_snoc hc', hall]; simp [d1, d2]⟩
          · walk_at "w"
            rw [all_cut hc' (by simp [d1])] at h
            exact h
        · rintro σ' H' ⟨⟨v, rfl⟩, rfl, hall⟩
          walk_at "w"
          rw [show z.cps.size = (tl z).length by simp [tl], List.take_length] at hall
          rw [hall] at h
          exact h
    · walk_at "w"
      rw [hbad (by omega)] at h
      exact h
  · rw [e1]
    rw [e2] at h
    walk_at "w"
    exact h

theorem df_is_name (T : Txt K mg cs) : Df P w K mg base "is_name" 1 ["thing"] (sp1 (R_is_name K)) := by
  obtain ⟨f, fd, hm, F, hb⟩ := T.f_is_name.ex
  exact ⟨f, fd, hm, F.kp, hb, ok_is_name F T⟩
abbrev top60 : Int := 1000000000000000000000000000000000000000000000000000000000000
def isPartD (d : PyData) : Bool := isSignD d || isNameD d
def arePartsD : PyData → Bool
  | .tuple ds => decide (ds.length ≤ 6) && ds.all isPartD
  | _ => false
def isWorthD : PyData → Bool
  | .int i => decide (0 ≤ i) && decide (i ≤ top60)
  | _ => false
def isRuleL : List PyData → Bool
  | [h, p, w] => (isNameD h && arePartsD p) && isWorthD w
  | _ => false
def isRuleD : PyData → Bool
  | .tuple ds => isRuleL ds
  | _ => false
theorem no_tup {d : PyData} : (∃ ds, d = .tuple ds) ∨ (isK d "tuple" = false ∧ arePartsD d = false ∧ isRuleD d = false) := by
  cases d <;> first | exact .inl ⟨_, rfl⟩ | exact .inr ⟨rfl, rfl, rfl⟩
theorem len3 {α : Type} {l : List α} (h : l.length = 3) : ∃ a b c, l = [a, b, c] := by
  match l, h with
  | [a, b, c], _ => exact ⟨a, b, c, rfl⟩
theorem rule_len {ds : List PyData} (h : ¬ ds.length = 3) : isRuleL ds = false := by
  match ds, h with
  | [], _ => rfl
  | [_], _ => rfl
  | [_, _], _ => rfl
  | [_, _, _], h => exact absurd rfl h
  | _ :: _ :: _ :: _ :: _, _ => rfl
theorem th3 {K : PySem.W.Frag} {H : Hp} {vs : List V} {a b c : PyData} (h : ThAll K H vs [a, b, c]) : ∃ x y z, vs = [x, y, z] ∧ Th K H x a ∧ Th K H y b ∧ Th K H z c := by
  cases h with
  | cons h0 h => cases h with
    | cons h1 h => cases h with
      | cons h2 h => cases h; exact ⟨_, _, _, rfl, h0, h1, h2⟩
theorem th_whole {K : PySem.W.Frag} {H : Hp} {v : V} {d : PyData} (h : Th K H v d) : (∃ n, d = .int n ∧ v = .int n) ∨ (isWholeD d = false ∧ isWorthD d = false) := by
  cases h <;> first | exact .inl ⟨_, rfl, rfl⟩ | exact .inr ⟨rfl, rfl⟩
def R_are_parts (K : PySem.W.Frag) : V → Hp → VK → XK → Prop := fun x H Q _ => ∃ d, Th K H x d ∧ Q (.bl (arePartsD d)) H
theorem ok_are_parts {f : Addr} {fd : FuncData} (F : Fun K "are_parts" "are_parts" s_are_parts f fd) (T : Txt K mg cs) : FnOk P w K mg base (L2.CX P w) 3 f fd ["thing"] (sp1 (R_are_parts K)) := by
  refine F.okX sc_are_parts (fun vs H Q E h => sp1_len h) (fun cdv A outer s H vs Q E hr h => ⟨_, PBw (X := X_are_parts P w K mg base f cdv A outer s H E), ?_⟩)
  obtain ⟨a0, rfl, h⟩ := h
  obtain ⟨t_MOST_PARTS, h_MOST_PARTS⟩ := T.k_MOST_PARTS
  have ib_MOST_PARTS : Gn mg "MOST_PARTS" (some _) := ⟨h_MOST_PARTS⟩
  have ib_isinstance := T.b_isinstance
  have ib_tuple := T.b_tuple
  have ib_len := T.b_len
  have hr' : Room 2 (X_are_parts P w K mg base f cdv A outer s H E).A := hr
  replace hr := hr'
  clear hr'
  obtain ⟨d, hd, h⟩ := h
  walk_at "w"
  refine k_isTuple hd ⟨_, rfl, ?_⟩
  rcases no_tup (d := d) with ⟨ds, rfl⟩ | ⟨e1, e2, _⟩
  · cases hd with
    | tup hs ha =>
    rename_i a vs
    walk_at "w"
    refine k_lenT hs ?_
    walk_at "w"
    have hlen := ha.len
    refine iteD (fun c => ?_) fun c => ?_
    · walk_at "w"
      have e : arePartsD (.tuple ds) = false := by
        show (decide (ds.length ≤ 6) && _) = false
        rw [decide_eq_false (by omega), Bool.false_and]
      rw [e] at h
      exact h
    · walk_at "w"
      have e : arePartsD (.tuple ds) = ds.all isPartD := by
        show (decide (ds.length ≤ 6) && _) = _
        rw [decide_eq_true (by omega), Bool.true_and]
      rw [e] at h
      refine s_for (j_tup ?_)
      walk_at "w"
      refine ⟨⟨_, hs⟩, _, _, _, walk_tup (xs := vs), fun i σ' H' => (∃ v, σ' = [some (.ref a), v]) ∧ H' = H ∧ (ds.take i).all isPartD = true, ⟨⟨_, rfl⟩, rfl, rfl⟩, fun _ _ _ _ ⟨_, e, _⟩ => by rw [e]; exact hs, ?_, ?_⟩
      · rintro i x σ' H' H2 hi ⟨⟨v, rfl⟩, rfl, hall⟩ ⟨rfl, hx⟩
        obtain ⟨d, hd1, hd2⟩ := ha.get hx
        walk_at "w"
        refine e_call (df_is_sign T) (hr.mono (by decide)) ?_
        walk_at "w"
        refine ⟨d, hd2, ?_⟩
        walk_at "w"
        cases c1 : isSignD d with
        | true =>
          walk_at "w"
          exact ⟨⟨_, rfl⟩, rfl, by rw [all_snoc hd1, hall]; simp [isPartD, c1]⟩
        | false =>
          walk_at "w"
          refine e_call (df_is_name T) (hr.mono (by decide)) ?_
          walk_at "w"
          refine ⟨d, hd2, ?_⟩
          walk_at "w"
          cases c2 : isNameD d with
          | true =>
            walk_at "w"
            exact ⟨⟨_, rfl⟩, rfl, by rw [all_snoc hd1, hall]; simp [isPartD, c2]⟩
          | false =>
            walk_at "w"
            rw [all_cut hd1 (by simp [isPartD, c1, c2])] at h
            exact h
      · rintro σ' H' ⟨⟨v, rfl⟩, rfl, hall⟩
        walk_at "w"
        rw [hlen, List.take_length] at hall
        rw [hall] at h
        exact h
  · rw [e1]
    rw [e2] at h
    walk_at "w"
    exact h
theorem df_are_parts (T : Txt K mg cs) : Df P w K mg base "are_parts" 3 ["thing"] (sp1 (R_are_parts K)) := by
  obtain ⟨f, fd, hm, F, hb⟩ := T.f_are_parts.ex
  exact ⟨f, fd, hm, F.kp, hb, ok_are_parts F T⟩
def R_is_rule (K : PySem.W.Frag) : V → Hp → VK → XK → Prop := fun x H Q _ => ∃ d, Th K H x d ∧ Q (.bl (isRuleD d)) H
theorem ok_is_rule {f : Addr} {fd : FuncData} (F : Fun K "is_rule" "is_rule" s_is_rule f fd) (T : Txt K mg cs) : FnOk P w K mg base (L2.CX P w) 4 f fd ["thing"] (sp1 (R_is_rule K)) := by
  refine F.okX sc_is_rule (fun vs H Q E h => sp1_len h) (fun cdv A outer s H vs Q E hr h => ⟨_, PBw (X := X_is_rule P w K mg base f cdv A outer s H E), ?_⟩)
  obtain ⟨a0, rfl, h⟩ := h
  obtain ⟨t_MOST_WORTH, h_MOST_WORTH⟩ := T.k_MOST_WORTH
  have ib_MOST_WORTH : Gn mg "MOST_WORTH" (some _) := ⟨h_MOST_WORTH⟩
  have ib_isinstance := T.b_isinstance
  have ib_tuple := T.b_tuple
  have ib_len := T.b_len
  have hr' : Room 3 (X_is_rule P w K mg base f cdv A outer s H E).A := hr
  replace hr := hr'
  clear hr'
  obtain ⟨d, hd, h⟩ := h
  walk_at "w"
  refine k_isTuple hd ⟨_, rfl, ?_⟩
  rcases no_tup (d := d) with ⟨ds, rfl⟩ | ⟨e1, _, e2⟩
  · cases hd with
    | tup hs ha =>
    rename_i a vs
    walk_at "w"
    refine k_lenT hs ?_
    walk_at "w"
    have hlen := ha.len
    refine iteND (fun c => ?_) fun c => ?_
    · walk_at "w"
      have e : isRuleD (.tuple ds) = false := rule_len (by omega)
      rw [e] at h
      exact h
    · obtain ⟨d0, d1, d2, rfl⟩ := len3 (l := ds) (by omega)
      obtain ⟨v0, v1, v2, rfl, h0, h1, h2⟩ := th3 ha
      walk_at "w"
      refine e_call (df_is_name T) (hr.mono (by decide)) ?_
      walk_at "w"
      refine i_tup hs (v := v0) rfl ?_
      walk_at "w"
      refine ⟨d0, h0, ?_⟩
      walk_at "w"
      cases c0 : isNameD d0 with
      | false =>
        walk_at "w"
        have e : isRuleD (.tuple [d0, d1, d2]) = false := by simp [isRuleD, isRuleL, c0]
        rw [e] at h
        exact h
      | true =>
        walk_at "w"
        refine e_call (df_are_parts T) (hr.mono (by decide)) ?_
        walk_at "w"
        refine i_tup hs (v := v1) rfl ?_
        walk_at "w"
        refine ⟨d1, h1, ?_⟩
        walk_at "w"
        cases c1 : arePartsD d1 with
        | false =>
          walk_at "w"
          have e : isRuleD (.tuple [d0, d1, d2]) = false := by simp [isRuleD, isRuleL, c1]
          rw [e] at h
          exact h
        | true =>
          walk_at "w"
          have e : isRuleD (.tuple [d0, d1, d2]) = isWorthD d2 := by simp [isRuleD, isRuleL, c0, c1]
          rw [e] at h
          refine e_and ?_
          refine e_call (df_is_whole T) (hr.mono (by decide)) ?_
          walk_at "w"
          refine i_tup hs (v := v2) rfl ?_
          walk_at "w"
          refine ⟨d2, h2, ?_⟩
          walk_at "w"
          rcases th_whole h2 with ⟨n, rfl, rfl⟩ | ⟨f1, f2⟩
          · walk_at "w"
            refine e_chain ?_
            walk_at "w"
            refine i_tup hs (v := .int n) rfl ?_
            walk_at "w"
            refine iteD (fun c3 => ?_) fun c3 => ?_
            · walk_at "w"
              have e : isWorthD (.int n) = decide (n ≤ top60) := by
                show (decide (0 ≤ n) && _) = _
                rw [decide_eq_true c3, Bool.true_and]
              rw [e] at h
              exact h
            · have e : isWorthD (.int n) = false := by
                show (decide (0 ≤ n) && _) = _
                rw [decide_eq_false c3, Bool.false_and]
              rw [e] at h
              exact h
          · rw [f1]
            rw [f2] at h
            exact iteF h
  · rw [e1]
    rw [e2] at h
    walk_at "w"
    exact h

theorem df_is_rule (T : Txt K mg cs) : Df P w K mg base "is_rule" 4 ["thing"] (sp1 (R_is_rule K)) := by
  obtain ⟨f, fd, hm, F, hb⟩ := T.f_is_rule.ex
  exact ⟨f, fd, hm, F.kp, hb, ok_is_rule F T⟩
/-! ### rules as data; rules as texts -/
structure Rl where
  head : Str
  parts : List Str
  worth : Int
def isPartS (p : Str) : Bool := isSignS p || isNameS p
def goodR (r : Rl) : Bool := (isNameS r.head && (decide (r.parts.length ≤ 6) && r.parts.all isPartS)) && (decide (0 ≤ r.worth) && decide (r.worth ≤ top60))
def ruleD (r : Rl) : PyData := .tuple [.str r.head, .tuple (r.parts.map .str), .int r.worth]
theorem goodR_D (r : Rl) : isRuleD (ruleD r) = goodR r := by
  show ((isNameS r.head && (decide ((r.parts.map PyData.str).length ≤ 6) && (r.parts.map PyData.str).all isPartD)) && _) = _
  rw [List.length_map, List.all_map]
  rfl
/-- a rule stands at v -/
def RuleAt (H : Hp) (v : V) (r : Rl) : Prop := ∃ a b, v = .ref a ∧ H a = some (.tup [.str r.head, .ref b, .int r.worth]) ∧ H b = some (.tup (r.parts.map V.str))
theorem RuleAt.more {H H' : Hp} {v : V} {r : Rl} (s : Same H H') (h : RuleAt H v r) : RuleAt H' v r := by
  obtain ⟨a, b, e, h1, h2⟩ := h
  exact ⟨a, b, e, s _ _ h1, s _ _ h2⟩
theorem th_strs {K : PySem.W.Frag} {H : Hp} : ∀ {l : List Str}, (∀ z ∈ l, z.length ≤ 1000000) → ThAll K H (l.map V.str) (l.map PyData.str)
  | [], _ => .nil
  | z :: l, h => .cons (.str z (h z (List.mem_cons_self ..))) (th_strs fun y hy => h y (List.mem_cons_of_mem _ hy))
theorem RuleAt.th {K : PySem.W.Frag} {H : Hp} {v : V} {r : Rl} (h : RuleAt H v r) (h1 : r.head.length ≤ 1000000) (h2 : ∀ z ∈ r.parts, z.length ≤ 1000000) : Th K H v (ruleD r) := by
  obtain ⟨a, b, rfl, e1, e2⟩ := h
  exact .tup (SqT.of e1) (.cons (.str _ h1) (.cons (.tup (SqT.of e2) (th_strs h2)) (.cons (.int _) .nil)))
theorem name_len {z : Str} (h : isNameS z = true) : z.length ≤ 8 := by
  unfold isNameS at h
  simp only [Bool.and_eq_true, decide_eq_true_eq] at h
  exact h.1.2
theorem sign_len {z : Str} (h : isSignS z = true) : z.length = 2 := by
  unfold isSignS at h
  rw [len_tl]
  match tl z, h with
  | [_, _], _ => rfl
theorem part_len {z : Str} (h : isPartS z = true) : z.length ≤ 8 := by
  unfold isPartS at h
  rcases Bool.or_eq_true_iff.mp h with h | h
  · have := sign_len h
    omega
  · exact name_len h
structure GoodR (r : Rl) : Prop where
  head : isNameS r.head = true
  few : r.parts.length ≤ 6
  parts : ∀ p ∈ r.parts, isPartS p = true
  lo : 0 ≤ r.worth
  hi : r.worth ≤ top60
theorem goodR_iff {r : Rl} : goodR r = true ↔ GoodR r := by
  unfold goodR
  simp only [Bool.and_eq_true, decide_eq_true_eq, List.all_eq_true]
  exact ⟨fun ⟨⟨a, b, c⟩, d, e⟩ => ⟨a, b, c, d, e⟩, fun h => ⟨⟨h.head, h.few, h.parts⟩, h.lo, h.hi⟩⟩
theorem GoodR.th {K : PySem.W.Frag} {H : Hp} {v : V} {r : Rl} (g : GoodR r) (h : RuleAt H v r) : Th K H v (ruleD r) :=
  h.th (Nat.le_trans (name_len g.head) (by decide)) fun z hz => Nat.le_trans (part_len (g.parts z hz)) (by decide)
theorem name_free {z : Str} (h : isNameS z = true) {s : Nat} (hs : s < 65) : s ∉ tl z := fun hm => by
  unfold isNameS at h
  simp only [Bool.and_eq_true, List.all_eq_true, decide_eq_true_eq] at h
  have := h.2 s hm
  omega
theorem sign_is {z : Str} (h : isSignS z = true) : ∃ c, tl z = [39, c] ∧ okc c = true := by
  unfold isSignS at h
  match e : tl z, h with
  | [a, c], h =>
    simp only [isSignL, Bool.and_eq_true, decide_eq_true_eq] at h
    exact ⟨c, by rw [h.1], h.2⟩
theorem tl_qs : tl (Str.ofString "' ") = [39, 32] := by decide +kernel
theorem tl_q : tl (Str.ofString "'") = [39] := by decide +kernel
theorem RuleAt.dp {K : PySem.W.Frag} {H : Hp} {v : V} {r : Rl} (h : RuleAt H v r) : Dp K H v (ruleD r) := by
  obtain ⟨a, b, rfl, e1, e2⟩ := h
  exact .tup (SqT.of e1) (.cons (.str _) (.cons (.tup (SqT.of e2) (dp_strs r.parts)) (.cons (.int _) .nil)))
theorem name_codes {z : Str} (h : isNameS z = true) : ∀ c ∈ tl z, c < 1114112 := fun c hc => by
  unfold isNameS at h
  simp only [Bool.and_eq_true, List.all_eq_true, decide_eq_true_eq] at h
  have := h.2 c hc
  omega
theorem part_codes {z : Str} (h : isPartS z = true) : ∀ c ∈ tl z, c < 1114112 := by
  rcases Bool.or_eq_true_iff.mp h with h | h
  · obtain ⟨c, e, hc⟩ := sign_is h
    rw [e]
    intro d hd
    simp only [okc, Bool.and_eq_true, decide_eq_true_eq] at hc
    simp only [List.mem_cons, List.not_mem_nil, or_false] at hd
    omega
  · exact name_codes h
theorem GoodR.sh {r : Rl} (g : GoodR r) : Sh 2 (ruleD r) := .tup fun d hd => by
  simp only [List.mem_cons, List.not_mem_nil, or_false] at hd
  rcases hd with rfl | rfl | rfl
  · exact .str (name_codes g.head)
  · refine .tup fun d hd => ?_
    obtain ⟨p, hp, rfl⟩ := List.mem_map.mp hd
    exact .str (part_codes (g.parts p hp))
  · exact .int _

def isDigC (c : Nat) : Bool := decide (48 ≤ c) && decide (c ≤ 57)
def figsOk (l : List Nat) : Bool := (decide (1 ≤ l.length) && decide (l.length ≤ 61)) && ((!(decide (l.head? = some 48) && decide (1 < l.length))) && l.all isDigC)
def readFigs (z : Str) : Option Int := if figsOk (tl z) = true then some ((NumText.digitsVal (tl z) : Nat) : Int) else none
def showPart (p : Str) : Str := if p = "' " then "'" else p
def readPart (w : Str) : Str := if w = "'" then "' " else w
def numW (n : Int) : Str := Str.ofString (toString n)
def showWords (r : Rl) : List Str := r.head :: numW r.worth :: "=" :: r.parts.map showPart
def showRule (r : Rl) : Str := Txt.join " " (showWords r)
def readWords : List Str → Option Rl
  | h :: n :: e :: ps => if e = "=" then (readFigs n).bind fun w => if goodR ⟨h, ps.map readPart, w⟩ = true then some ⟨h, ps.map readPart, w⟩ else none else none
  | _ => none
def readRule (z : Str) : Option Rl := readWords (Txt.split z " ")
theorem tl_sp : tl (Str.ofString " ") = [32] := by decide +kernel
theorem digs_all {l : List Nat} (h : NumText.AllDigits l) : l.all isDigC = true := List.all_eq_true.mpr fun c hc => by
  have := h c hc
  simp [isDigC, this.1, this.2]
theorem numL_head : ∀ (k n : Nat), n < k → 10 ≤ n → ∃ c r, numL n = c :: r ∧ c ≠ 48
  | 0, _, h, _ => by omega
  | k + 1, n, h, h10 => by
    rw [numL_step h10]
    by_cases h1 : n / 10 < 10
    · rw [numL_lt h1]
      exact ⟨48 + n / 10, _, rfl, by omega⟩
    · obtain ⟨c, r, e, hc⟩ := numL_head k (n / 10) (by omega) (by omega)
      rw [e]
      exact ⟨c, _, rfl, hc⟩
theorem figs_num (n : Nat) (h : n ≤ 1000000000000000000000000000000000000000000000000000000000000) : figsOk (numL n) = true := by
  have h1 := numL_len (n := n) (k := 61) (by decide) (by omega)
  have h2 := numL_ne n
  have h3 : 1 ≤ (numL n).length := by
    cases e : numL n with
    | nil => exact absurd e h2
    | cons a l => simp
  unfold figsOk
  rw [decide_eq_true h3, decide_eq_true h1, digs_all (numL_digits n)]
  by_cases h10 : n < 10
  · rw [numL_lt h10]
    simp
  · obtain ⟨c, r, e, hc⟩ := numL_head (n + 1) n (by omega) (by omega)
    rw [e]
    simp [hc]
theorem figs_of (n : Int) (h0 : 0 ≤ n) (h1 : n ≤ top60) : readFigs (numW n) = some n := by
  obtain ⟨m, rfl⟩ := Int.eq_ofNat_of_zero_le h0
  have e : tl (numW (m : Int)) = numL m := tl_num m
  unfold readFigs
  rw [e, figs_num m (by have h2 : (m : Int) ≤ 1000000000000000000000000000000000000000000000000000000000000 := h1; omega), if_pos rfl, numL_val]
theorem show_free {p : Str} (h : isPartS p = true) : 32 ∉ tl (showPart p) := by
  unfold showPart
  split
  · rw [tl_q]; decide
  · rename_i hp
    rcases Bool.or_eq_true_iff.mp h with h | h
    · obtain ⟨c, e, _⟩ := sign_is h
      rw [e]
      intro hm
      have hc : c = 32 := (by simpa using hm : 32 = c).symm
      exact hp (ext_tl (by rw [e, hc, tl_qs]))
    · exact name_free h (by decide)
theorem read_showPart {p : Str} (h : isPartS p = true) : readPart (showPart p) = p := by
  unfold showPart readPart
  by_cases hp : p = Str.ofString "' "
  · rw [if_pos hp, if_pos rfl, hp]
  · rw [if_neg hp]
    by_cases hq : p = Str.ofString "'"
    · exfalso
      rcases Bool.or_eq_true_iff.mp h with h | h
      · obtain ⟨c, e, _⟩ := sign_is h
        rw [hq, tl_q] at e
        cases e
      · exact name_free (s := 39) h (by decide) (by rw [hq, tl_q]; simp)
    · rw [if_neg hq]
theorem numW_free {n : Int} (h0 : 0 ≤ n) {s : Nat} (hs : s < 48 ∨ 57 < s) : s ∉ tl (numW n) := by
  obtain ⟨m, rfl⟩ := Int.eq_ofNat_of_zero_le h0
  rw [show tl (numW (m : Int)) = numL m from tl_num m]
  exact numL_free hs
theorem words_free {r : Rl} (g : GoodR r) : ∀ p ∈ showWords r, 32 ∉ tl p := by
  intro p hp
  simp only [showWords, List.mem_cons, List.mem_map] at hp
  rcases hp with rfl | rfl | rfl | ⟨q, hq, rfl⟩
  · exact name_free (s := 32) g.head (by decide)
  · exact numW_free g.lo (s := 32) (.inl (by decide))
  · decide +kernel
  · exact show_free (g.parts q hq)
theorem read_show {r : Rl} (g : GoodR r) : readRule (showRule r) = some r := by
  unfold readRule showRule
  rw [split_join tl_sp (by decide +kernel) (by simp [showWords]) (words_free g)]
  show (if ("=" : Str) = "=" then (readFigs (numW r.worth)).bind _ else none) = _
  have e : (r.parts.map showPart).map readPart = r.parts := by
    rw [List.map_map]
    conv => rhs; rw [← List.map_id r.parts]
    exact List.map_congr_left fun p hp => read_showPart (g.parts p hp)
  rw [if_pos rfl, figs_of _ g.lo g.hi, e]
  show (if goodR ⟨r.head, r.parts, r.worth⟩ = true then some (⟨r.head, r.parts, r.worth⟩ : Rl) else none) = some r
  rw [if_pos (goodR_iff.mpr g)]
theorem is_zero (a : Nat) : decide ((⟨#[a]⟩ : Str) = Str.ofString "0") = decide (a = 48) := decide_eq_decide.mpr (by rw [one_eq a [48] "0" (by decide +kernel)]; simp)
theorem in_figs (c : Nat) : decide (c ∈ tl (Str.ofString "0123456789")) = isDigC c := by
  have e : tl (Str.ofString "0123456789") = [48, 49, 50, 51, 52, 53, 54, 55, 56, 57] := by decide +kernel
  rw [e]
  by_cases h : 48 ≤ c ∧ c ≤ 57
  · rw [show isDigC c = true by simp [isDigC, h.1, h.2], decide_eq_true]
    have : c = 48 ∨ c = 49 ∨ c = 50 ∨ c = 51 ∨ c = 52 ∨ c = 53 ∨ c = 54 ∨ c = 55 ∨ c = 56 ∨ c = 57 := by omega
    simp only [List.mem_cons, List.not_mem_nil, or_false]
    exact this
  · rw [show isDigC c = false by simp only [isDigC, Bool.and_eq_false_iff, decide_eq_false_iff_not]; omega, decide_eq_false]
    simp only [List.mem_cons, List.not_mem_nil, or_false]
    omega
theorem log60 {n : Int} (h0 : 0 ≤ n) (h1 : n ≤ top60) : n.natAbs.log2 < 1920 := by
  have h : n.natAbs < 2 ^ 200 := by
    have e : top60 < 2 ^ 200 := by decide
    omega
  exact Nat.lt_of_lt_of_le (PySem.Flt.log2_lt_of (by decide) h) (by decide)
theorem sum_le {l : List Nat} {b : Nat} (h : ∀ x ∈ l, x ≤ b) : l.sum ≤ l.length * b := by
  induction l with
  | nil => simp
  | cons a l ih =>
    rw [List.sum_cons, List.length_cons, Nat.succ_mul]
    have := ih fun x hx => h x (List.mem_cons_of_mem _ hx)
    have := h a (List.mem_cons_self ..)
    omega
theorem numW_len {n : Int} (h0 : 0 ≤ n) (h1 : n ≤ top60) : (numW n).length ≤ 61 := by
  obtain ⟨m, rfl⟩ := Int.eq_ofNat_of_zero_le h0
  rw [len_tl, show tl (numW (m : Int)) = numL m from tl_num m]
  have h2 : (m : Int) ≤ 1000000000000000000000000000000000000000000000000000000000000 := h1
  exact numL_len (by decide) (by omega)
theorem show_len {p : Str} (h : isPartS p = true) : (showPart p).length ≤ 8 := by
  unfold showPart
  split
  · decide +kernel
  · exact part_len h
theorem words_len {r : Rl} (g : GoodR r) : (showWords r).length ≤ 9 ∧ ∀ p ∈ showWords r, p.length ≤ 61 := by
  constructor
  · simp only [showWords, List.length_cons, List.length_map]
    have := g.few
    omega
  · intro p hp
    simp only [showWords, List.mem_cons, List.mem_map] at hp
    rcases hp with rfl | rfl | rfl | ⟨q, hq, rfl⟩
    · exact Nat.le_trans (name_len g.head) (by decide)
    · exact numW_len g.lo g.hi
    · decide +kernel
    · exact Nat.le_trans (show_len (g.parts q hq)) (by decide)
theorem eq_str (z : Str) (t : String) : decide (z = Str.ofString t) = decide (z = (t : Str)) := rfl
def R_read_figures : V → Hp → VK → XK → Prop := fun x H Q _ => ∃ z, x = .str z ∧ z.length ≤ 1000000 ∧ Q (oV (readFigs z)) H
theorem ok_read_figures {f : Addr} {fd : FuncData} (F : Fun K "read_figures" "read_figures" s_read_figures f fd) (T : Txt K mg cs) : FnOk P w K mg base (L2.CX P w) 1 f fd ["word"] (sp1 (R_read_figures)) := by
  refine F.okX sc_read_figures (fun vs H Q E h => sp1_len h) (fun cdv A outer s H vs Q E hr h => ⟨_, PBw (X := X_read_figures P w K mg base f cdv A outer s H E), ?_⟩)
  obtain ⟨a0, rfl, h⟩ := h
  have ib_int := T.b_int
  obtain ⟨t_FIGURES, h_FIGURES⟩ := T.k_FIGURES
  have ib_FIGURES : Gn mg "FIGURES" (some _) := ⟨h_FIGURES⟩
  obtain ⟨t_MOST_FIGURES, h_MOST_FIGURES⟩ := T.k_MOST_FIGURES
  have ib_MOST_FIGURES : Gn mg "MOST_FIGURES" (some _) := ⟨h_MOST_FIGURES⟩
  have ib_len := T.b_len
  have hr' : Room 0 (X_read_figures P w K mg base f cdv A outer s H E).A := hr
  replace hr := hr'
  clear hr'
  obtain ⟨z, rfl, hz, h⟩ := h
  have hlen : (tl z).length = z.length := (len_tl z).symm
  have no : figsOk (tl z) = false → Q .non H := fun e => by
    have e2 : readFigs z = none := by unfold readFigs; rw [e]; rfl
    rw [e2] at h
    exact h
  walk_at "w"
  refine k_lenS (sz1m hz) ?_
  walk_at "w"
  refine iteD (fun c1 => ?_) fun c1 => ?_
  · walk_at "w"
    refine iteND (fun c2 => ?_) fun c2 => ?_
    · walk_at "w"
      exact no (by unfold figsOk; rw [decide_eq_false (show ¬ (tl z).length ≤ 61 by omega)]; simp)
    · walk_at "w"
      cases hl : tl z with
      | nil => rw [hl] at hlen; simp at hlen; omega
      | cons a l =>
      refine i_str (sz1m hz) (c := a) (by rw [show z.cps.toList = a :: l from hl]; exact atI_nat (by decide) rfl) ?_
      walk_at "w"
      rw [is_zero]
      have go : ¬ (a = 48 ∧ 1 < (a :: l).length) → figsOk (tl z) = (tl z).all isDigC := fun k => by
        unfold figsOk
        rw [decide_eq_true (show 1 ≤ (tl z).length by omega), decide_eq_true (show (tl z).length ≤ 61 by omega), hl]
        have e : (decide ((a :: l).head? = some 48) && decide (1 < (a :: l).length)) = false := by
          rw [Bool.and_eq_false_iff, decide_eq_false_iff_not, decide_eq_false_iff_not]
          simp only [List.head?_cons, Option.some.injEq]
          by_cases q : a = 48
          · exact .inr fun z => k ⟨q, z⟩
          · exact .inl q
        rw [e]
        rfl
      have rest : ¬ (a = 48 ∧ 1 < (a :: l).length) → bW (X_read_figures P w K mg base f cdv A outer s H E) (defBody s_read_figures).tail { nx := fun _ H' => Q .non H', rt := Q } [some (.str z), none] H := fun k => by
        have go := go k
        walk_at "w"
        refine s_for (j_str ?_)
        walk_at "w"
        refine ⟨_, _, _, walk_str, fun i σ' H' => (∃ v, σ' = [some (.str z), v]) ∧ H' = H ∧ ((tl z).take i).all isDigC = true, ⟨⟨_, rfl⟩, rfl, rfl⟩, fun _ _ _ _ _ => trivial, ?_, ?_⟩
        · rintro i x σ' H' H2 hi ⟨⟨v, rfl⟩, rfl, hall⟩ ⟨rfl, c, hc, rfl⟩
          have hc' : (tl z)[i]? = some c := by simpa [tl] using hc
          walk_at "w"
          rw [in_figs]
          cases d : isDigC c with
          | true =>
            walk_at "w"
            exact ⟨⟨_, rfl⟩, rfl, by rw [all_snoc hc', hall, d]; rfl⟩
          | false =>
            walk_at "w"
            exact no (by rw [go]; exact all_cut hc' d)
        · rintro σ' H' ⟨⟨v, rfl⟩, rfl, hall⟩
          walk_at "w"
          rw [show z.cps.size = (tl z).length by simp [tl], List.take_length] at hall
          have e2 : readFigs z = some ((NumText.digitsVal (tl z) : Nat) : Int) := by unfold readFigs; rw [go, hall]; rfl
          rw [e2] at h
          have hd : NumText.AllDigits z.cps.toList := fun c hc => by
            have := List.all_eq_true.mp hall c hc
            simpa [isDigC] using this
          exact k_intS (intText_digits hd (by rw [show z.cps.toList = a :: l from hl]; simp) (by omega)) (by omega) h
      refine iteD (fun c3 => ?_) fun c3 => ?_
      · walk_at "w"
        refine k_lenS (sz1m hz) ?_
        walk_at "w"
        refine iteD (fun c4 => ?_) fun c4 => ?_
        · walk_at "w"
          refine no ?_
          unfold figsOk
          rw [hl] at hlen ⊢
          rw [decide_eq_true (show 1 < (a :: l).length by omega), c3]
          simp
        · exact b_nil (rest (by rw [hl] at hlen; omega))
      · exact iteF (b_nil (rest fun k => c3 k.1))
  · walk_at "w"
    exact no (by unfold figsOk; rw [decide_eq_false (show ¬ 1 ≤ (tl z).length by omega)]; simp)
theorem df_read_figures (T : Txt K mg cs) : Df P w K mg base "read_figures" 1 ["word"] (sp1 (R_read_figures)) := by
  obtain ⟨f, fd, hm, F, hb⟩ := T.f_read_figures.ex
  exact ⟨f, fd, hm, F.kp, hb, ok_read_figures F T⟩
def R_read_part : V → Hp → VK → XK → Prop := fun x H Q _ => ∃ z, x = .str z ∧ Q (.str (readPart z)) H
theorem ok_read_part {f : Addr} {fd : FuncData} (F : Fun K "read_part" "read_part" s_read_part f fd) (T : Txt K mg cs) : FnOk P w K mg base (L2.CX P w) 1 f fd ["word"] (sp1 (R_read_part)) := by
  refine F.okX sc_read_part (fun vs H Q E h => sp1_len h) (fun cdv A outer s H vs Q E hr h => ⟨_, PBw (X := X_read_part P w K mg base f cdv A outer s H E), ?_⟩)
  obtain ⟨a0, rfl, h⟩ := h
  have hr' : Room 0 (X_read_part P w K mg base f cdv A outer s H E).A := hr
  replace hr := hr'
  clear hr'
  obtain ⟨z, rfl, h⟩ := h
  walk_at "w"
  refine iteD (fun c => ?_) fun c => ?_
  · walk_at "w"
    rw [show readPart z = Str.ofString "' " from if_pos c] at h
    exact h
  · walk_at "w"
    rw [show readPart z = z from if_neg c] at h
    exact h
theorem df_read_part (T : Txt K mg cs) : Df P w K mg base "read_part" 1 ["word"] (sp1 (R_read_part)) := by
  obtain ⟨f, fd, hm, F, hb⟩ := T.f_read_part.ex
  exact ⟨f, fd, hm, F.kp, hb, ok_read_part F T⟩
theorem spl_len : ∀ (l acc : List Nat), (spl [32] 0 acc l).length ≤ l.length + 1 ∧ ∀ p ∈ spl [32] 0 acc l, p.length ≤ acc.length + l.length
  | [], acc => by
    rw [spl_nil]
    exact ⟨by simp, by simp⟩
  | c :: r, acc => by
    by_cases h : pre [32] (c :: r) = true
    · rw [spl_hit h]
      obtain ⟨a, b⟩ := spl_len r []
      refine ⟨by simp only [List.length_cons, List.length_nil, Nat.zero_add, Nat.sub_self]; omega, fun p hp => ?_⟩
      rcases List.mem_cons.mp hp with rfl | hp
      · simp only [List.length_cons]; omega
      · have := b p hp
        simp only [List.length_cons, List.length_nil] at *
        omega
    · rw [spl_miss (by simpa using h)]
      obtain ⟨a, b⟩ := spl_len r (acc ++ [c])
      refine ⟨by simp only [List.length_cons]; omega, fun p hp => ?_⟩
      have := b p hp
      simp only [List.length_cons, List.length_append, List.length_nil] at *
      omega
theorem split_len (z : Str) : (Txt.split z " ").length ≤ z.length + 1 ∧ ∀ y ∈ Txt.split z " ", y.length ≤ z.length := by
  have e := split_spl z " " (by rw [tl_sp]; simp) (kind_ok (by decide +kernel))
  rw [tl_sp] at e
  obtain ⟨a, b⟩ := spl_len (tl z) []
  rw [← e] at a b
  rw [List.length_map] at a
  refine ⟨by rw [len_tl]; exact a, fun y hy => ?_⟩
  have := b (tl y) (List.mem_map.mpr ⟨y, hy, rfl⟩)
  rw [len_tl, len_tl]
  simpa using this
def figD : Option Int → PyData
  | none => .none
  | some i => .int i
theorem figD_th {K : PySem.W.Frag} {H : Hp} (o : Option Int) : Th K H (oV o) (figD o) := by cases o <;> first | exact .non | exact .int _
theorem is_eq (z : Str) : (z = Str.ofString "=") = (z = ("=" : Str)) := rfl
theorem readPart_len (w : Str) : (readPart w).length ≤ w.length + 2 := by
  unfold readPart
  split
  · have : (("' " : Str)).length = 2 := by decide +kernel
    omega
  · omega
theorem atL {xs : List V} {n : Nat} {v : V} (h : xs[n]? = some v) : atI xs (n : Int) = some v := atI_nat (by omega) (by rw [Int.toNat_natCast]; exact h)
def R_read_rule (K : PySem.W.Frag) (cs : Cs) : V → Hp → VK → XK → Prop := fun x H Q E => (∃ z, x = .str z ∧ z.length ≤ 100000 ∧
  (∀ r, readRule z = some r → ∀ v H', Same H H' → RuleAt H' v r → Q v H') ∧ (readRule z = none → ∀ H', Same H H' → E (.ref cs.NoRule) none H')) ∨
  (∃ d, Th K H x d ∧ isK d "str" = false ∧ ∀ H', Same H H' → E (.ref cs.NoRule) none H')
theorem ok_read_rule {f : Addr} {fd : FuncData} (F : Fun K "read_rule" "read_rule" s_read_rule f fd) (T : Txt K mg cs) : FnOk P w K mg base (L2.CX P w) 5 f fd ["text"] (sp1 (R_read_rule K cs)) := by
  refine F.okX sc_read_rule (fun vs H Q E h => sp1_len h) (fun cdv A outer s H vs Q E hr h => ⟨_, PBw (X := X_read_rule P w K mg base f cdv A outer s H E), ?_⟩)
  obtain ⟨a0, rfl, h⟩ := h
  have ib_isinstance := T.b_isinstance
  have ib_str := T.b_str
  have ib_NoRule : Gn mg "NoRule" (some _) := ⟨T.x_NoRule.mg⟩
  have ib_tuple := T.b_tuple
  have ib_len := T.b_len
  have hr' : Room 4 (X_read_rule P w K mg base f cdv A outer s H E).A := hr
  replace hr := hr'
  clear hr'
  rcases h with ⟨z, rfl, hz, h1, h2⟩ | ⟨d, hd, hb, h2⟩
  case' inr =>
    walk_at "w"
    refine k_isStr hd ⟨_, rfl, ?_⟩
    rw [hb]
    walk_at "w"
    refine s_raise T.x_NoRule ?_
    exact h2 _ (Same.refl _)
  walk_at "w"
  refine k_isStr (.str z (by omega)) ?_
  walk_at "w"
  refine e_split ?_
  walk_at "w"
  refine ⟨⟨_, rfl⟩, ?_⟩
  walk_at "w"
  refine m_split (by decide +kernel) (by omega) fun l1 H1 s1 n1 k1 _ => ?_
  obtain ⟨hlen, hsp⟩ := split_len z
  have hrr : readRule z = readWords (Txt.split z " ") := rfl
  generalize hw : Txt.split z " " = ws at *
  walk_at "w"
  refine k_lenL (SqL.of k1) ?_
  walk_at "w"
  rw [List.length_map]
  match ws, hrr with
  | [], hrr =>
    refine iteT ?_
    walk_at "w"
    refine s_raise T.x_NoRule ?_
    exact h2 hrr _ s1
  | [_], hrr =>
    refine iteT ?_
    walk_at "w"
    refine s_raise T.x_NoRule ?_
    exact h2 hrr _ s1
  | [_, _], hrr =>
    refine iteT ?_
    walk_at "w"
    refine s_raise T.x_NoRule ?_
    exact h2 hrr _ s1
  | w0 :: w1 :: w2 :: ps, hrr =>
    refine iteD (fun c => absurd c (by simp only [List.length_cons]; omega)) fun _ => ?_
    walk_at "w"
    refine i_lst (SqL.of k1) (v := .str w2) (atI_nat (by decide) rfl) ?_
    walk_at "w"
    refine iteND (fun c => ?_) fun c => ?_
    · walk_at "w"
      refine s_raise T.x_NoRule ?_
      refine h2 (hrr.trans ?_) _ s1
      exact if_neg c
    have hrr2 : readRule z = (readFigs w1).bind fun w => if goodR ⟨w0, ps.map readPart, w⟩ = true then some ⟨w0, ps.map readPart, w⟩ else none := hrr.trans (if_pos c)
    walk_at "w"
    refine i_lst (SqL.of k1) (v := .str w0) (atI_nat (by decide) rfl) ?_
    walk_at "w"
    refine e_lcM (blkOk_by (sc := defScope s_read_rule) (own := [("word", 3)]) (by decide +kernel)) (j_list ?_)
    walk_at "w"
    refine n_lst (SqL.of k1) fun l2 H2 s2 n2 k2 _ => ?_
    rw [cutV_from _ (by decide)] at k2
    have k2' : H2 l2 = some (.lst (ps.map V.str)) := k2
    refine ⟨l2, rfl, ⟨_, SqL.of k2'⟩, _, _, _, walk_list (xs := ps.map V.str), ps.map fun p => V.str (readPart p), by simp, ?_, fun H' s' => SqL.of (s' _ _ k2'), ?_, ?_⟩
    · rw [List.length_map]
      simp only [List.length_cons] at hlen
      omega
    · rintro i x H' H3 hi s' ⟨rfl, hx⟩
      rw [List.getElem?_map] at hx
      obtain ⟨p, hp, rfl⟩ : ∃ p, ps[i]? = some p ∧ V.str p = x := by
        cases e : ps[i]? with
        | none => rw [e] at hx; cases hx
        | some p => rw [e] at hx; exact ⟨p, rfl, Option.some.inj hx⟩
      refine ⟨Same.refl _, fun _ _ _ _ _ => ?_⟩
      walk_at "w"
      refine ⟨Same.refl _, fun _ _ _ _ _ => ?_⟩
      refine e_call (df_read_part T) (hr.mono (by decide)) ?_
      walk_at "w"
      exact ⟨by rw [List.getElem?_map, hp]; rfl, Same.refl _⟩
    intro l3 H3 s3 n3 k3
    walk_at "w"
    refine k_tupL (SqL.of k3) fun l4 H4 s4 n4 k4 _ => ?_
    walk_at "w"
    refine e_call (df_read_figures T) (hr.mono (by decide)) ?_
    walk_at "w"
    refine i_lst (SqL.of (s4 _ _ (s3 _ _ (s2 _ _ k1)))) (v := .str w1) (atI_nat (by decide) rfl) ?_
    walk_at "w"
    refine ⟨Nat.le_trans (hsp w1 (by simp)) (by omega), ?_⟩
    walk_at "w"
    intro l5 H5 s5 n5 k5 _
    have k4' := s5 _ _ k4
    have hth : Th K H5 (.ref l5) (.tuple [.str w0, .tuple ((ps.map readPart).map .str), figD (readFigs w1)]) := by
      refine .tup (SqT.of k5) (.cons (.str _ (Nat.le_trans (hsp w0 (by simp)) (by omega))) (.cons (.tup (SqT.of k4') ?_) (.cons (figD_th _) .nil)))
      have z := th_strs (K := K) (H := H5) (l := ps.map readPart) (by
        intro y hy
        obtain ⟨p, hp, rfl⟩ := List.mem_map.mp hy
        have := readPart_len p
        have := hsp p (by simp [hp])
        omega)
      rw [List.map_map] at z
      exact z
    walk_at "w"
    refine e_call (df_is_rule T) (hr.mono (by decide)) ?_
    walk_at "w"
    refine ⟨_, hth, ?_⟩
    walk_at "w"
    have s15 := s1.trans (s2.trans (s3.trans (s4.trans s5)))
    cases hf : readFigs w1 with
    | none =>
      rw [hf] at hrr2
      have e : isRuleD (.tuple [.str w0, .tuple ((ps.map readPart).map .str), figD none]) = false := by simp [isRuleD, isRuleL, figD, isWorthD]
      rw [e]
      walk_at "w"
      exact s_raise T.x_NoRule (h2 hrr2 _ s15)
    | some w =>
      rw [hf] at hrr2 k5
      have e : isRuleD (.tuple [.str w0, .tuple ((ps.map readPart).map .str), figD (some w)]) = goodR ⟨w0, ps.map readPart, w⟩ := goodR_D ⟨w0, ps.map readPart, w⟩
      rw [e]
      cases hg : goodR ⟨w0, ps.map readPart, w⟩ with
      | false =>
        walk_at "w"
        refine s_raise T.x_NoRule (h2 (hrr2.trans ?_) _ s15)
        exact if_neg (by rw [hg]; simp)
      | true =>
        walk_at "w"
        refine h1 ⟨w0, ps.map readPart, w⟩ (hrr2.trans (if_pos hg)) _ _ s15 ⟨l5, l4, rfl, k5, ?_⟩
        rw [k4', List.map_map]
        rfl

theorem df_read_rule (T : Txt K mg cs) : Df P w K mg base "read_rule" 5 ["text"] (sp1 (R_read_rule K cs)) := by
  obtain ⟨f, fd, hm, F, hb⟩ := T.f_read_rule.ex
  exact ⟨f, fd, hm, F.kp, hb, ok_read_rule F T⟩
def abcL : List Nat := [65, 66, 67, 68, 69, 70, 71, 72, 73, 74, 75, 76, 77, 78, 79, 80, 81, 82, 83, 84, 85, 86, 87, 88, 89, 90]
theorem abc_at {i : Int} (h0 : 0 ≤ i) (h1 : i < 26) {L : List Nat} (hL : L = abcL) : ∃ c, atI L i = some c ∧ 65 ≤ c ∧ c ≤ 90 := by
  subst hL
  exact atI_all (P := fun c => 65 ≤ c ∧ c ≤ 90) h0 (by simpa [abcL] using h1) (by decide)
theorem abc_tl : tl (Str.ofString "ABCDEFGHIJKLMNOPQRSTUVWXYZ") = abcL := by decide +kernel
/-- n letters -/
structure Letters (n : Nat) (z : Str) : Prop where
  len : z.length = n
  all : ∀ c ∈ tl z, 65 ≤ c ∧ c ≤ 90
theorem Letters.name {n : Nat} {z : Str} (h : Letters n z) (h1 : 1 ≤ n) (h2 : n ≤ 8) : isNameS z = true := by
  unfold isNameS
  rw [h.len, decide_eq_true h1, decide_eq_true h2]
  simp only [Bool.and_self, Bool.true_and, List.all_eq_true, Bool.and_eq_true, decide_eq_true_eq]
  exact h.all
theorem Letters.snoc {n : Nat} {z : Str} {c : Nat} (h : Letters n z) (h1 : 65 ≤ c) (h2 : c ≤ 90) : Letters (n + 1) (z ++ ⟨#[c]⟩) := by
  refine ⟨?_, fun d hd => ?_⟩
  · rw [len_tl, tl_append, List.length_append, ← len_tl, h.len]
    rfl
  · rw [tl_append] at hd
    rcases List.mem_append.mp hd with q | q
    · exact h.all d q
    · have : d = c := by simpa [tl] using q
      rw [this]
      exact ⟨h1, h2⟩
theorem lenA (x y : Str) : (x ++ y).length = x.length + y.length := by rw [len_tl, tl_append, List.length_append, ← len_tl, ← len_tl]
theorem Letters.zero : Letters 0 (Str.ofString "") := ⟨by decide +kernel, by
  have e : tl (Str.ofString "") = [] := by decide +kernel
  rw [e]
  simp⟩
theorem Letters.one {c : Nat} (h1 : 65 ≤ c) (h2 : c ≤ 90) : Letters 1 ⟨#[c]⟩ := ⟨rfl, fun d hd => by
  have : d = c := by simpa [tl] using hd
  rw [this]
  exact ⟨h1, h2⟩⟩
theorem Letters.app {n m : Nat} {a b : Str} (h : Letters n a) (k : Letters m b) : Letters (n + m) (a ++ b) := ⟨by rw [lenA, h.len, k.len], fun c hc => by
  rw [tl_append] at hc
  rcases List.mem_append.mp hc with q | q
  · exact h.all c q
  · exact k.all c q⟩
theorem Letters.to {n : Nat} {z : Str} {i : Int} (h : Letters n z) (h0 : 0 ≤ i) (h1 : i ≤ n) : Letters i.toNat (cutS z none (some i)) := ⟨by
  rw [len_tl, cutS_to z h0, List.length_take, ← len_tl, h.len]
  omega, fun c hc => by
  rw [cutS_to z h0] at hc
  exact h.all c (List.mem_of_mem_take hc)⟩
theorem Letters.from {n : Nat} {z : Str} {i : Int} (h : Letters n z) (h0 : 0 ≤ i) (h1 : i ≤ n) : Letters (n - i.toNat) (cutS z (some i) none) := ⟨by
  rw [len_tl, cutS_from z h0, List.length_drop, ← len_tl, h.len], fun c hc => by
  rw [cutS_from z h0] at hc
  exact h.all c (List.mem_of_mem_drop hc)⟩
theorem Letters.rep {n k : Nat} {z y : Str} (h : Letters n z) (e : tl y = (List.replicate k (tl z)).flatten) : Letters (k * n) y := ⟨by
  rw [len_tl, e, List.length_flatten, List.map_replicate, List.sum_replicate_nat, ← len_tl, h.len], fun c hc => by
  rw [e] at hc
  obtain ⟨l, hl, hc2⟩ := List.mem_flatten.mp hc
  rw [List.eq_of_mem_replicate hl] at hc2
  exact h.all c hc2⟩
theorem strs_of {ys : List V} {P : Str → Prop} (h : ∀ y ∈ ys, ∃ p, y = .str p ∧ P p) : ∃ ps : List Str, ys = ps.map V.str ∧ ∀ p ∈ ps, P p := by
  induction ys with
  | nil => exact ⟨[], rfl, by simp⟩
  | cons y ys ih =>
    obtain ⟨p, rfl, hp⟩ := h y (List.mem_cons_self ..)
    obtain ⟨ps, rfl, hps⟩ := ih fun z hz => h z (List.mem_cons_of_mem _ hz)
    exact ⟨p :: ps, rfl, fun q hq => by
      rcases List.mem_cons.mp hq with rfl | hq
      · exact hp
      · exact hps q hq⟩
theorem ix_any {H : Hp} {p : Addr} {xs : List V} {i : Int} (k : H p = some (.lst xs)) (P : V → Prop) (hP : ∀ x ∈ xs, P x) (h0 : 0 ≤ i) (h1 : i < xs.length) : ∃ v, atI xs i = some v ∧ P v := atI_all (P := P) h0 h1 hP

def cellAt (ns : List Int) (i : Int) : Int := ns.getD i.toNat 0
theorem get_ints {ns : List Int} {i : Int} (h0 : 0 ≤ i) (h1 : i < ns.length) : atI (ns.map V.int) i = some (.int (cellAt ns i)) := by
  refine atI_nat h0 ?_
  rw [List.getElem?_map, List.getElem?_eq_getElem (by omega)]
  show some (V.int _) = _
  rw [show cellAt ns i = ns[i.toNat] from by unfold cellAt; rw [List.getD_eq_getElem?_getD, List.getElem?_eq_getElem (by omega)]; rfl]
def R_law_cell_at (K : PySem.W.Frag) : V → V → Hp → VK → XK → Prop := fun x y H Q _ => ∃ (a : Addr) (ns : List Int) (i : Int), x = .ref a ∧ SqL K H a (ns.map V.int) ∧ y = .int i ∧ 0 ≤ i ∧ Q (.int (cellAt ns i)) H
theorem ok_law_cell_at {f : Addr} {fd : FuncData} (F : Fun K "_law_cell_at" "_law_cell_at" s_law_cell_at f fd) (T : Txt K mg cs) : FnOk P w K mg base (L2.CX P w) 1 f fd ["_law_script", "_law_k"] (sp2 (R_law_cell_at K)) := by
  refine F.okX sc_law_cell_at (fun vs H Q E h => sp2_len h) (fun cdv A outer s H vs Q E hr h => ⟨_, PBw (X := X_law_cell_at P w K mg base f cdv A outer s H E), ?_⟩)
  obtain ⟨a0, a1, rfl, h⟩ := h
  have ib_len := T.b_len
  have hr' : Room 0 (X_law_cell_at P w K mg base f cdv A outer s H E).A := hr
  replace hr := hr'
  clear hr'
  obtain ⟨a, ns, i, rfl, hS, rfl, h0, h⟩ := h
  walk_at "w"
  refine k_lenL hS ?_
  walk_at "w"
  rw [List.length_map]
  refine iteD (fun c => ?_) fun c => ?_
  · walk_at "w"
    refine i_lst hS (get_ints h0 c) ?_
    exact h
  · walk_at "w"
    have e : cellAt ns i = 0 := by
      unfold cellAt
      rw [List.getD_eq_getElem?_getD, List.getElem?_eq_none (by omega)]
      rfl
    rw [e] at h
    exact h
theorem df_law_cell_at (T : Txt K mg cs) : Df P w K mg base "_law_cell_at" 1 ["_law_script", "_law_k"] (sp2 (R_law_cell_at K)) := by
  obtain ⟨f, fd, hm, F, hb⟩ := T.f_law_cell_at.ex
  exact ⟨f, fd, hm, F.kp, hb, ok_law_cell_at F T⟩
def someS : Str := (Str.ofString " !\"#$&'()*+,-./0123456789:;<=>?@ABCDEFGHIJKLMNOPQRSTUVWXYZ[\\]^_`") ++ (Str.ofString "abcdefghijklmnopqrstuvwxyz{|}~")
theorem some_len : someS.length = 94 := by decide +kernel
theorem some_ok : (tl someS).all okc = true := by decide +kernel
theorem some_at {i : Int} (h0 : 0 ≤ i) (h1 : i < 94) : ∃ c, atI (tl someS) i = some c ∧ okc c = true :=
  atI_all (P := fun c => okc c = true) h0 (by rw [← len_tl, some_len]; exact h1) fun c hc => List.all_eq_true.mp some_ok c hc
theorem sign_ok {c : Nat} (hc : okc c = true) : isPartS (Str.ofString "'" ++ ⟨#[c]⟩) = true := by
  have e : tl (Str.ofString "'" ++ ⟨#[c]⟩) = [39, c] := by rw [tl_append, tl_q]; rfl
  show (isSignL (tl _) || _) = true
  rw [e]
  simp [isSignL, hc]

def R_law_sign : V → Hp → VK → XK → Prop := fun x H Q _ => ∃ i, x = .int i ∧ ∀ c, okc c = true → Q (.str ⟨#[c]⟩) H
theorem ok_law_sign {f : Addr} {fd : FuncData} (F : Fun K "_law_sign" "_law_sign" s_law_sign f fd) (T : Txt K mg cs) : FnOk P w K mg base (L2.CX P w) 1 f fd ["_law_cell"] (sp1 (R_law_sign)) := by
  refine F.okX sc_law_sign (fun vs H Q E h => sp1_len h) (fun cdv A outer s H vs Q E hr h => ⟨_, PBw (X := X_law_sign P w K mg base f cdv A outer s H E), ?_⟩)
  obtain ⟨a0, rfl, h⟩ := h
  have hr' : Room 0 (X_law_sign P w K mg base f cdv A outer s H E).A := hr
  replace hr := hr'
  clear hr'
  obtain ⟨i, rfl, h⟩ := h
  walk_at "w"
  refine o_cat (by decide +kernel) ?_
  walk_at "w"
  obtain ⟨c, h1, h2⟩ := some_at (i := i % 94) (by omega) (by omega)
  refine i_str (z := someS) (by decide +kernel) h1 ?_
  exact h c h2
theorem df_law_sign (T : Txt K mg cs) : Df P w K mg base "_law_sign" 1 ["_law_cell"] (sp1 (R_law_sign)) := by
  obtain ⟨f, fd, hm, F, hb⟩ := T.f_law_sign.ex
  exact ⟨f, fd, hm, F.kp, hb, ok_law_sign F T⟩
def R_law_name : V → Hp → VK → XK → Prop := fun x H Q _ => ∃ i, x = .int i ∧ ∀ z, isNameS z = true → Q (.str z) H
theorem ok_law_name {f : Addr} {fd : FuncData} (F : Fun K "_law_name" "_law_name" s_law_name f fd) (T : Txt K mg cs) : FnOk P w K mg base (L2.CX P w) 1 f fd ["_law_cell"] (sp1 (R_law_name)) := by
  refine F.okX sc_law_name (fun vs H Q E h => sp1_len h) (fun cdv A outer s H vs Q E hr h => ⟨_, PBw (X := X_law_name P w K mg base f cdv A outer s H E), ?_⟩)
  obtain ⟨a0, rfl, h⟩ := h
  have ib_range := T.b_range
  have hr' : Room 0 (X_law_name P w K mg base f cdv A outer s H E).A := hr
  replace hr := hr'
  clear hr'
  obtain ⟨i, rfl, h⟩ := h
  walk_at "w"
  obtain ⟨c, h1, h2, h3⟩ := abc_at (i := i % 26) (by omega) (by omega) abc_tl
  refine i_str (by decide +kernel) h1 ?_
  walk_at "w"
  refine s_for (j_rng1 ?_)
  walk_at "w"
  refine ⟨by omega, by omega, _, _, _, walk_range, fun n σ' H' => ∃ (j : Int) (z : Str) (v : Option V), σ' = [some (.int j), some (.str "ABCDEFGHIJKLMNOPQRSTUVWXYZ"), some (.str z), v] ∧ H' = H ∧ Letters (n + 1) z, ⟨_, _, _, rfl, rfl, ⟨rfl, fun d hd => ?_⟩⟩, fun _ _ _ _ _ => trivial, ?_, ?_⟩
  · have : d = c := by simpa [tl] using hd
    rw [this]
    exact ⟨h2, h3⟩
  · rintro n x σ' H' H2 hn ⟨j, z, v, rfl, rfl, hz⟩ ⟨rfl, rfl⟩
    walk_at "w"
    refine o_mulS (.inr ⟨by decide, by decide⟩) ?_
    walk_at "w"
    refine o_mulS (.inl ⟨by decide, by decide⟩) ?_
    walk_at "w"
    obtain ⟨c, h1, h2, h3⟩ := abc_at (i := (j * 48271 + 11 * (0 + (n : Int)) + 7) % 2147483647 / 5 % 26) (by omega) (by omega) abc_tl
    refine i_str (by decide +kernel) h1 ?_
    walk_at "w"
    refine o_cat (by
      have : (⟨#[c]⟩ : Str).length = 1 := rfl
      rw [hz.len, this, sizeLine_eq]
      omega) ?_
    walk_at "w"
    first | exact hz.snoc h2 h3 | exact ⟨_, _, _, rfl, rfl, hz.snoc h2 h3⟩
  · rintro σ' H' ⟨j, z, v, rfl, rfl, hz⟩
    walk_at "w"
    exact h z (hz.name (by omega) (by omega))
theorem df_law_name (T : Txt K mg cs) : Df P w K mg base "_law_name" 1 ["_law_cell"] (sp1 (R_law_name)) := by
  obtain ⟨f, fd, hm, F, hb⟩ := T.f_law_name.ex
  exact ⟨f, fd, hm, F.kp, hb, ok_law_name F T⟩
def R_law_part : V → Hp → VK → XK → Prop := fun x H Q _ => ∃ i, x = .int i ∧ ∀ z, isPartS z = true → Q (.str z) H
theorem ok_law_part {f : Addr} {fd : FuncData} (F : Fun K "_law_part" "_law_part" s_law_part f fd) (T : Txt K mg cs) : FnOk P w K mg base (L2.CX P w) 2 f fd ["_law_cell"] (sp1 (R_law_part)) := by
  refine F.okX sc_law_part (fun vs H Q E h => sp1_len h) (fun cdv A outer s H vs Q E hr h => ⟨_, PBw (X := X_law_part P w K mg base f cdv A outer s H E), ?_⟩)
  obtain ⟨a0, rfl, h⟩ := h
  have hr' : Room 1 (X_law_part P w K mg base f cdv A outer s H E).A := hr
  replace hr := hr'
  clear hr'
  obtain ⟨i, rfl, h⟩ := h
  walk_at "w"
  refine iteD (fun c => ?_) fun c => ?_
  · walk_at "w"
    refine e_call (df_law_name T) (hr.mono (by decide)) ?_
    walk_at "w"
    intro z hz
    exact h z (by rw [isPartS, hz, Bool.or_true])
  · walk_at "w"
    have sg : ∀ c, okc c = true → isPartS (Str.ofString "'" ++ ⟨#[c]⟩) = true := fun c hc => by
      have e : tl (Str.ofString "'" ++ ⟨#[c]⟩) = [39, c] := by rw [tl_append, tl_q]; rfl
      show (isSignL (tl _) || _) = true
      rw [e]
      simp [isSignL, hc]
    refine iteD (fun c1 => ?_) fun c1 => ?_
    · walk_at "w"
      refine iteD (fun c2 => ?_) fun c2 => ?_
      · walk_at "w"
        exact h "' " (by decide +kernel)
      · walk_at "w"
        refine e_call (df_law_sign T) (hr.mono (by decide)) ?_
        walk_at "w"
        intro c hc
        refine o_cat (by
          have e1 : (Str.ofString "'").length = 1 := by decide +kernel
          have e2 : (⟨#[c]⟩ : Str).length = 1 := rfl
          rw [e1, e2]
          decide) ?_
        exact h _ (sg c hc)
    · walk_at "w"
      refine e_call (df_law_sign T) (hr.mono (by decide)) ?_
      walk_at "w"
      intro c hc
      refine o_cat (by
        have e1 : (Str.ofString "'").length = 1 := by decide +kernel
        have e2 : (⟨#[c]⟩ : Str).length = 1 := rfl
        rw [e1, e2]
        decide) ?_
      exact h _ (sg c hc)
theorem df_law_part (T : Txt K mg cs) : Df P w K mg base "_law_part" 2 ["_law_cell"] (sp1 (R_law_part)) := by
  obtain ⟨f, fd, hm, F, hb⟩ := T.f_law_part.ex
  exact ⟨f, fd, hm, F.kp, hb, ok_law_part F T⟩
def R_law_worth : V → Hp → VK → XK → Prop := fun x H Q _ => ∃ i, x = .int i ∧ ∀ n, 0 ≤ n → n ≤ top60 → Q (.int n) H
theorem ok_law_worth {f : Addr} {fd : FuncData} (F : Fun K "_law_worth" "_law_worth" s_law_worth f fd) (T : Txt K mg cs) : FnOk P w K mg base (L2.CX P w) 1 f fd ["_law_cell"] (sp1 (R_law_worth)) := by
  refine F.okX sc_law_worth (fun vs H Q E h => sp1_len h) (fun cdv A outer s H vs Q E hr h => ⟨_, PBw (X := X_law_worth P w K mg base f cdv A outer s H E), ?_⟩)
  obtain ⟨a0, rfl, h⟩ := h
  have hr' : Room 0 (X_law_worth P w K mg base f cdv A outer s H E).A := hr
  replace hr := hr'
  clear hr'
  obtain ⟨i, rfl, h⟩ := h
  have z : ∀ n, 0 ≤ n → n ≤ (1000000000000000000000000000000000000000000000000000000000000 : Int) → Q (.int n) H := h
  walk_at "w"
  refine iteD (fun c => ?_) fun c => ?_
  · walk_at "w"; exact z _ (by omega) (by omega)
  · walk_at "w"
    refine iteD (fun c => ?_) fun c => ?_
    · walk_at "w"; exact z _ (by omega) (by omega)
    · walk_at "w"; exact z _ (by omega) (by omega)
theorem df_law_worth (T : Txt K mg cs) : Df P w K mg base "_law_worth" 1 ["_law_cell"] (sp1 (R_law_worth)) := by
  obtain ⟨f, fd, hm, F, hb⟩ := T.f_law_worth.ex
  exact ⟨f, fd, hm, F.kp, hb, ok_law_worth F T⟩
def R_law_rule (K : PySem.W.Frag) : V → V → Hp → VK → XK → Prop := fun x y H Q _ => ∃ (a : Addr) (ns : List Int) (i : Int), x = .ref a ∧ SqL K H a (ns.map V.int) ∧ y = .int i ∧ 0 ≤ i ∧ ∀ r v H', GoodR r → Same H H' → RuleAt H' v r → Q v H'
theorem ok_law_rule {f : Addr} {fd : FuncData} (F : Fun K "_law_rule" "_law_rule" s_law_rule f fd) (T : Txt K mg cs) : FnOk P w K mg base (L2.CX P w) 3 f fd ["_law_script", "_law_at"] (sp2 (R_law_rule K)) := by
  refine F.okX sc_law_rule (fun vs H Q E h => sp2_len h) (fun cdv A outer s H vs Q E hr h => ⟨_, PBw (X := X_law_rule P w K mg base f cdv A outer s H E), ?_⟩)
  obtain ⟨a0, a1, rfl, h⟩ := h
  have ib_tuple := T.b_tuple
  have ib_range := T.b_range
  have hr' : Room 2 (X_law_rule P w K mg base f cdv A outer s H E).A := hr
  replace hr := hr'
  clear hr'
  obtain ⟨a, ns, i, rfl, hS, rfl, h0, h⟩ := h
  walk_at "w"
  refine e_call (df_law_cell_at T) (hr.mono (by decide)) ?_
  walk_at "w"
  refine ⟨_, _, _, rfl, hS, rfl, h0, ?_⟩
  walk_at "w"
  refine s_setLcP (blkOk_by (sc := defScope s_law_rule) (own := [("_law_k", 4)]) (by decide +kernel)) (fun _ y => ∃ p, y = .str p ∧ isPartS p = true) (j_rng1 ?_)
  walk_at "w"
  refine ⟨by omega, by omega, _, _, _, walk_range, by omega, fun _ _ => trivial, ?_, ?_⟩
  · rintro n x H' H2 hn s' ⟨rfl, rfl⟩
    refine ⟨Same.refl _, fun _ _ _ _ _ => ?_⟩
    walk_at "w"
    refine ⟨Same.refl _, fun _ _ _ _ _ => ?_⟩
    refine e_call (df_law_part T) (hr.mono (by decide)) ?_
    refine a_cons ?_
    refine e_call (df_law_cell_at T) (hr.mono (by decide)) ?_
    walk_at "w"
    refine ⟨_, _, _, rfl, s'.seq hS, rfl, by omega, ?_⟩
    walk_at "w"
    intro z hz
    exact ⟨⟨z, rfl, hz⟩, Same.refl _⟩
  intro l1 H1 ys s1 n1 k1 e1 hy
  obtain ⟨ps, rfl, hps⟩ : ∃ ps : List Str, ys = ps.map V.str ∧ ∀ p ∈ ps, isPartS p = true := strs_of fun y hm => by
    obtain ⟨j, hj⟩ := List.mem_iff_getElem?.mp hm
    exact hy j y hj
  rw [List.length_map] at e1
  have hS1 := s1.seq hS
  walk_at "w"
  refine e_call (df_law_name T) (hr.mono (by decide)) ?_
  refine a_cons ?_
  refine e_call (df_law_cell_at T) (hr.mono (by decide)) ?_
  walk_at "w"
  refine ⟨_, _, _, rfl, hS1, rfl, by omega, ?_⟩
  walk_at "w"
  intro hd hhd
  walk_at "w"
  refine k_tupL (SqL.of k1) fun l2 H2 s2 n2 k2 _ => ?_
  walk_at "w"
  refine e_call (df_law_worth T) (hr.mono (by decide)) ?_
  refine a_cons ?_
  refine e_call (df_law_cell_at T) (hr.mono (by decide)) ?_
  walk_at "w"
  refine ⟨_, _, _, rfl, s2.seq hS1, rfl, by omega, ?_⟩
  walk_at "w"
  intro wo hw0 hw1
  walk_at "w"
  intro l3 H3 s3 n3 k3 _
  walk_at "w"
  exact h ⟨hd, ps, wo⟩ _ _ ⟨hhd, by show ps.length ≤ 6; omega, hps, hw0, hw1⟩ (s1.trans (s2.trans s3)) ⟨l3, l2, rfl, k3, s3 _ _ k2⟩
theorem df_law_rule (T : Txt K mg cs) : Df P w K mg base "_law_rule" 3 ["_law_script", "_law_at"] (sp2 (R_law_rule K)) := by
  obtain ⟨f, fd, hm, F, hb⟩ := T.f_law_rule.ex
  exact ⟨f, fd, hm, F.kp, hb, ok_law_rule F T⟩
/-- a rule's text as the law writes it, as far as i parts -/
def wroteL (r : Rl) (i : Nat) : List Nat := tl r.head ++ [32] ++ tl (numW r.worth) ++ [32, 61] ++ (r.parts.take i).flatMap fun p => 32 :: tl (showPart p)
theorem wrote_all (r : Rl) : tl (showRule r) = wroteL r r.parts.length := by
  have j : ∀ l : List (List Nat), joinL [32] l = match l with | [] => [] | a :: l => a ++ l.flatMap (fun p => 32 :: p) := by
    intro l
    induction l with
    | nil => rfl
    | cons a l ih =>
      cases l with
      | nil => show a = a ++ []; rw [List.append_nil]
      | cons b l =>
        show a ++ ([32] ++ joinL [32] (b :: l)) = _
        rw [ih]
        simp
  unfold showRule
  rw [join_eq, tl_join, tl_sp, j]
  show tl r.head ++ (tl (numW r.worth) :: tl (Str.ofString "=") :: ((r.parts.map showPart).map tl)).flatMap _ = _
  rw [show tl (Str.ofString "=") = [61] from by decide +kernel]
  simp only [wroteL, List.take_length, List.flatMap_cons, List.flatMap_map, List.append_assoc, List.cons_append, List.nil_append]
theorem wrote_step {r : Rl} {i : Nat} {p : Str} (h : r.parts[i]? = some p) : wroteL r (i + 1) = wroteL r i ++ 32 :: tl (showPart p) := by
  unfold wroteL
  have hl := (List.getElem?_eq_some_iff.mp h).1
  rw [← List.take_append_getElem hl, (List.getElem?_eq_some_iff.mp h).2, List.flatMap_append]
  simp
theorem wrote_len {r : Rl} (g : GoodR r) : ∀ i, i ≤ 6 → (wroteL r i).length ≤ 80 + 10 * i := by
  intro i hi
  have h1 := name_len g.head
  have h2 := numW_len g.lo g.hi
  rw [len_tl] at h1 h2
  unfold wroteL
  simp only [List.length_append, List.length_cons, List.length_nil]
  have q : ∀ l : List Str, (∀ p ∈ l, isPartS p = true) → (l.flatMap fun p => 32 :: tl (showPart p)).length ≤ 10 * l.length := by
    intro l hl
    induction l with
    | nil => simp
    | cons a l ih =>
      rw [List.flatMap_cons, List.length_append, List.length_cons, List.length_cons]
      have := ih fun x hx => hl x (List.mem_cons_of_mem _ hx)
      have h3 := show_len (hl a (List.mem_cons_self ..))
      rw [len_tl] at h3
      omega
  have := q (r.parts.take i) fun p hp => g.parts p (List.mem_of_mem_take hp)
  rw [List.length_take] at this
  omega
theorem cut_is_sp {p : Str} (h : isPartS p = true) : (cutS p (some 1) none = Str.ofString " ") ↔ p = Str.ofString "' " := by
  have e : tl (cutS p (some 1) none) = (tl p).drop 1 := cutS_from p (by decide)
  constructor
  · intro q
    rw [q, tl_sp] at e
    rcases Bool.or_eq_true_iff.mp h with h | h
    · obtain ⟨c, e2, _⟩ := sign_is h
      rw [e2] at e
      have : c = 32 := (by simpa using e : 32 = c).symm
      exact ext_tl (by rw [e2, this, tl_qs])
    · exfalso
      have : 32 ∈ tl p := List.mem_of_mem_drop (show 32 ∈ (tl p).drop 1 by rw [← e]; simp)
      exact name_free (s := 32) h (by decide) this
  · intro q
    exact ext_tl (by rw [e, q, tl_qs, tl_sp]; rfl)
def R_law_written (K : PySem.W.Frag) : V → Hp → VK → XK → Prop := fun x H Q _ => ∃ r, RuleAt H x r ∧ GoodR r ∧ Q (.str (showRule r)) H
theorem ok_law_written {f : Addr} {fd : FuncData} (F : Fun K "_law_written" "_law_written" s_law_written f fd) (T : Txt K mg cs) : FnOk P w K mg base (L2.CX P w) 1 f fd ["_law_rule_here"] (sp1 (R_law_written K)) := by
  refine F.okX sc_law_written (fun vs H Q E h => sp1_len h) (fun cdv A outer s H vs Q E hr h => ⟨_, PBw (X := X_law_written P w K mg base f cdv A outer s H E), ?_⟩)
  obtain ⟨a0, rfl, h⟩ := h
  have ib_str := T.b_str
  have hr' : Room 0 (X_law_written P w K mg base f cdv A outer s H E).A := hr
  replace hr := hr'
  clear hr'
  obtain ⟨r, ⟨a, b, rfl, h1, h2⟩, g, h⟩ := h
  walk_at "w"
  refine i_tup (SqT.of h1) (v := .str r.head) rfl ?_
  walk_at "w"
  have hd8 := name_len g.head
  have hn61 := numW_len g.lo g.hi
  have l1 : (Str.ofString " ").length = 1 := by decide +kernel
  have l2 : (Str.ofString " =").length = 2 := by decide +kernel
  have l3 : (Str.ofString " '").length = 2 := by decide +kernel
  have la : ∀ x y : Str, (x ++ y).length = x.length + y.length := fun x y => by rw [len_tl, tl_append, List.length_append, ← len_tl, ← len_tl]
  refine o_cat (by rw [l1, sizeLine_eq]; omega) ?_
  walk_at "w"
  refine i_tup (SqT.of h1) (v := .int r.worth) rfl ?_
  walk_at "w"
  refine k_strI (log60 g.lo g.hi) ?_
  have hnw : (Str.ofString (toString r.worth)).length ≤ 61 := hn61
  refine o_cat (by rw [la, l1, sizeLine_eq]; omega) ?_
  walk_at "w"
  refine o_cat (by rw [la, la, l1, l2, sizeLine_eq]; omega) ?_
  walk_at "w"
  refine s_for (j_tup ?_)
  walk_at "w"
  refine i_tup (SqT.of h1) (v := .ref b) rfl ?_
  refine ⟨b, rfl, ⟨_, SqT.of h2⟩, _, _, _, walk_tup (xs := r.parts.map V.str), fun i σ' H' => ∃ (z : Str) (v : Option V), σ' = [some (.ref a), some (.str z), v] ∧ H' = H ∧ tl z = wroteL r i, ⟨_, _, rfl, rfl, ?_⟩, fun _ _ _ _ ⟨_, _, _, e, _⟩ => by rw [e]; exact SqT.of h2, ?_, ?_⟩
  · rw [tl_append, tl_append, tl_append, tl_sp, show tl (Str.ofString " =") = [32, 61] from by decide +kernel]
    simp [wroteL, numW]
  · rintro i x σ' H' H2 hi ⟨z, v, rfl, rfl, hz⟩ ⟨rfl, hx⟩
    rw [List.length_map] at hi
    rw [List.getElem?_map] at hx
    obtain ⟨p, hp, rfl⟩ : ∃ p, r.parts[i]? = some p ∧ V.str p = x := by
      cases e : r.parts[i]? with
      | none => rw [e] at hx; cases hx
      | some p => rw [e] at hx; exact ⟨p, rfl, Option.some.inj hx⟩
    have hpp := g.parts p (List.mem_of_getElem? hp)
    have few := g.few
    have hzl : z.length ≤ 200 := by
      have := wrote_len g i (by omega)
      rw [len_tl, hz]
      omega
    have hp8 := part_len hpp
    walk_at "w"
    refine n_str (by rw [sizeLine_eq]; omega) ?_
    walk_at "w"
    refine iteD (fun c => ?_) fun c => ?_
    · walk_at "w"
      refine o_cat (by rw [l3, sizeLine_eq]; omega) ?_
      walk_at "w"
      have e := (cut_is_sp hpp).mp c
      rw [tl_append, wrote_step hp, hz, show showPart p = Str.ofString "'" from if_pos e, tl_q]
      rw [show tl (Str.ofString " '") = [32, 39] from by decide +kernel]
    · walk_at "w"
      refine o_cat (by rw [l1, sizeLine_eq]; omega) ?_
      walk_at "w"
      refine o_cat (by rw [la, l1, sizeLine_eq]; omega) ?_
      walk_at "w"
      rw [tl_append, tl_append, wrote_step hp, hz, show showPart p = p from if_neg fun e => c ((cut_is_sp hpp).mpr e), tl_sp]
      simp
  · rintro σ' H' ⟨z, v, rfl, rfl, hz⟩
    walk_at "w"
    rw [List.length_map, ← wrote_all] at hz
    rw [← ext_tl hz] at h
    exact h
theorem df_law_written (T : Txt K mg cs) : Df P w K mg base "_law_written" 1 ["_law_rule_here"] (sp1 (R_law_written K)) := by
  obtain ⟨f, fd, hm, F, hb⟩ := T.f_law_written.ex
  exact ⟨f, fd, hm, F.kp, hb, ok_law_written F T⟩
def R_law_alike (K : PySem.W.Frag) : V → V → Hp → VK → XK → Prop := fun x y H Q _ => ∃ r, GoodR r ∧ RuleAt H x r ∧ RuleAt H y r ∧ Q (.bl true) H
theorem ok_law_alike {f : Addr} {fd : FuncData} (F : Fun K "_law_alike" "_law_alike" s_law_alike f fd) (T : Txt K mg cs) : FnOk P w K mg base (L2.CX P w) 1 f fd ["_law_found", "_law_due_here"] (sp2 (R_law_alike K)) := by
  refine F.okX sc_law_alike (fun vs H Q E h => sp2_len h) (fun cdv A outer s H vs Q E hr h => ⟨_, PBw (X := X_law_alike P w K mg base f cdv A outer s H E), ?_⟩)
  obtain ⟨a0, a1, rfl, h⟩ := h
  have ib_isinstance := T.b_isinstance
  have ib_bool := T.b_bool
  have ib_tuple := T.b_tuple
  have ib_len := T.b_len
  have ib_str := T.b_str
  have ib_int := T.b_int
  have hr' : Room 0 (X_law_alike P w K mg base f cdv A outer s H E).A := hr
  replace hr := hr'
  clear hr'
  obtain ⟨r, g, hx, hy, h⟩ := h
  obtain ⟨a, b, rfl, h1, h2⟩ := id hx
  walk_at "w"
  refine k_isB (TyT h1) (b := true) (by decide +kernel) ?_
  walk_at "w"
  refine k_lenT (SqT.of h1) ?_
  walk_at "w"
  refine i_tup (SqT.of h1) (v := .ref b) rfl ?_
  walk_at "w"
  refine k_isB (TyT h2) (b := true) (by decide +kernel) ?_
  walk_at "w"
  refine i_tup (SqT.of h1) (v := .str r.head) rfl ?_
  walk_at "w"
  refine k_isB (TyB.2.2.1 _) (b := true) (by decide +kernel) ?_
  walk_at "w"
  refine i_tup (SqT.of h1) (v := .int r.worth) rfl ?_
  walk_at "w"
  refine k_isB (TyB.1 _) kb_int_int ?_
  walk_at "w"
  refine i_tup (SqT.of h1) (v := .int r.worth) rfl ?_
  walk_at "w"
  refine k_isB (TyB.1 _) kb_int_bool ?_
  walk_at "w"
  refine s_for (j_tup ?_)
  walk_at "w"
  refine i_tup (SqT.of h1) (v := .ref b) rfl ?_
  refine ⟨b, rfl, ⟨_, SqT.of h2⟩, _, _, _, walk_tup (xs := r.parts.map V.str), fun i σ' H' => (∃ v, σ' = [some (.ref a), some a1, v]) ∧ H' = H, ⟨⟨_, rfl⟩, rfl⟩, fun _ _ _ _ ⟨_, e⟩ => by rw [e]; exact SqT.of h2, ?_, ?_⟩
  · rintro i x σ' H' H2 hi ⟨⟨v, rfl⟩, rfl⟩ ⟨rfl, hq⟩
    rw [List.getElem?_map] at hq
    obtain ⟨p, hp, rfl⟩ : ∃ p, r.parts[i]? = some p ∧ V.str p = x := by
      cases e : r.parts[i]? with
      | none => rw [e] at hq; cases hq
      | some p => rw [e] at hq; exact ⟨p, rfl, Option.some.inj hq⟩
    walk_at "w"
    refine k_isB (TyB.2.2.1 _) (b := true) (by decide +kernel) ?_
    walk_at "w"
    exact ⟨⟨_, rfl⟩, rfl⟩
  · rintro σ' H' ⟨⟨v, rfl⟩, rfl⟩
    walk_at "w"
    refine o_eqD hr.units hx.dp hy.dp g.sh.ok g.sh.ok ?_
    rw [g.sh.refl]
    exact h

theorem df_law_alike (T : Txt K mg cs) : Df P w K mg base "_law_alike" 1 ["_law_found", "_law_due_here"] (sp2 (R_law_alike K)) := by
  obtain ⟨f, fd, hm, F, hb⟩ := T.f_law_alike.ex
  exact ⟨f, fd, hm, F.kp, hb, ok_law_alike F T⟩
theorem spl_mem : ∀ (l acc : List Nat), (∀ c ∈ acc, c ≠ 32) → ∀ p ∈ spl [32] 0 acc l, ∀ c ∈ p, c ≠ 32 ∧ (c ∈ acc ∨ c ∈ l)
  | [], acc, h => by
    rw [spl_nil]
    intro p hp c hc
    rw [List.mem_singleton.mp hp] at hc
    exact ⟨h c hc, .inl hc⟩
  | x :: r, acc, h => by
    by_cases e : pre [32] (x :: r) = true
    · rw [spl_hit e]
      intro p hp c hc
      rcases List.mem_cons.mp hp with rfl | hp
      · exact ⟨h c hc, .inl hc⟩
      · obtain ⟨a, b⟩ := spl_mem r [] (by simp) p (by simpa using hp) c hc
        exact ⟨a, .inr (List.mem_cons_of_mem _ (b.resolve_left (by simp)))⟩
    · rw [spl_miss (by simpa using e)]
      have hx : x ≠ 32 := fun z => e (by rw [z]; simp [pre])
      intro p hp c hc
      obtain ⟨a, b⟩ := spl_mem r (acc ++ [x]) (fun c hc => by
        rcases List.mem_append.mp hc with q | q
        · exact h c q
        · rw [List.mem_singleton.mp q]; exact hx) p hp c hc
      refine ⟨a, ?_⟩
      rcases b with b | b
      · rcases List.mem_append.mp b with q | q
        · exact .inl q
        · rw [List.mem_singleton.mp q]; exact .inr (List.mem_cons_self ..)
      · exact .inr (List.mem_cons_of_mem _ b)
theorem split_mem (z : Str) : ∀ y ∈ Txt.split z " ", ∀ c ∈ tl y, c ≠ 32 ∧ c ∈ tl z := fun y hy c hc => by
  have e := split_spl z " " (by rw [tl_sp]; simp) (kind_ok (by decide +kernel))
  rw [tl_sp] at e
  obtain ⟨a, b⟩ := spl_mem (tl z) [] (by simp) (tl y) (by rw [← e]; exact List.mem_map.mpr ⟨y, hy, rfl⟩) c hc
  exact ⟨a, b.resolve_left (by simp)⟩
/-- no percent sign -/
def noPc (z : Str) : Prop := 37 ∉ tl z
def figN (o : Option Int) : Int := o.getD (-1)
theorem in_abc (c : Nat) : decide (c ∈ tl (Str.ofString "ABCDEFGHIJKLMNOPQRSTUVWXYZ")) = (decide (65 ≤ c) && decide (c ≤ 90)) := by
  rw [abc_tl]
  by_cases h : c < 127
  · exact (by decide +kernel : ∀ m : Fin 127, decide ((m : Nat) ∈ abcL) = (decide (65 ≤ (m : Nat)) && decide ((m : Nat) ≤ 90))) ⟨c, h⟩
  · rw [decide_eq_false (show ¬ c ≤ 90 by omega), Bool.and_false]
    exact decide_eq_false fun q => h ((by decide +kernel : ∀ x ∈ abcL, x < 127) c q)
def R_law_figures : V → Hp → VK → XK → Prop := fun x H Q _ => ∃ z, x = .str z ∧ z.length ≤ 1000000 ∧ Q (.int (figN (readFigs z))) H
theorem ok_law_figures {f : Addr} {fd : FuncData} (F : Fun K "_law_figures" "_law_figures" s_law_figures f fd) (T : Txt K mg cs) : FnOk P w K mg base (L2.CX P w) 1 f fd ["_law_word"] (sp1 (R_law_figures)) := by
  refine F.okX sc_law_figures (fun vs H Q E h => sp1_len h) (fun cdv A outer s H vs Q E hr h => ⟨_, PBw (X := X_law_figures P w K mg base f cdv A outer s H E), ?_⟩)
  obtain ⟨a0, rfl, h⟩ := h
  have ib_int := T.b_int
  have ib_len := T.b_len
  have hr' : Room 0 (X_law_figures P w K mg base f cdv A outer s H E).A := hr
  replace hr := hr'
  clear hr'
  obtain ⟨z, rfl, hz, h⟩ := h
  have hlen : (tl z).length = z.length := (len_tl z).symm
  have no : figsOk (tl z) = false → Q (.int (-1)) H := fun e => by
    have e2 : readFigs z = none := by unfold readFigs; rw [e]; rfl
    rw [e2] at h
    exact h
  walk_at "w"
  refine k_lenS (sz1m hz) ?_
  walk_at "w"
  refine iteD (fun c1 => ?_) fun c1 => ?_
  · walk_at "w"
    exact no (by unfold figsOk; rw [decide_eq_false (show ¬ 1 ≤ (tl z).length by omega)]; simp)
  · walk_at "w"
    refine k_lenS (sz1m hz) ?_
    walk_at "w"
    refine iteD (fun c2 => ?_) fun c2 => ?_
    · walk_at "w"
      exact no (by unfold figsOk; rw [decide_eq_false (show ¬ (tl z).length ≤ 61 by omega)]; simp)
    · walk_at "w"
      cases hl : tl z with
      | nil => rw [hl] at hlen; simp at hlen; omega
      | cons a l =>
      refine i_str (sz1m hz) (c := a) (by rw [show z.cps.toList = a :: l from hl]; exact atI_nat (by decide) rfl) ?_
      walk_at "w"
      rw [is_zero]
      have go : ¬ (a = 48 ∧ 1 < (a :: l).length) → figsOk (tl z) = (tl z).all isDigC := fun k => by
        unfold figsOk
        rw [decide_eq_true (show 1 ≤ (tl z).length by omega), decide_eq_true (show (tl z).length ≤ 61 by omega), hl]
        have e : (decide ((a :: l).head? = some 48) && decide (1 < (a :: l).length)) = false := by
          rw [Bool.and_eq_false_iff, decide_eq_false_iff_not, decide_eq_false_iff_not]
          simp only [List.head?_cons, Option.some.injEq]
          by_cases q : a = 48
          · exact .inr fun z => k ⟨q, z⟩
          · exact .inl q
        rw [e]
        rfl
      have rest : ¬ (a = 48 ∧ 1 < (a :: l).length) → bW (X_law_figures P w K mg base f cdv A outer s H E) (defBody s_law_figures).tail { nx := fun _ H' => Q .non H', rt := Q } [some (.str z), none] H := fun k => by
        have go := go k
        walk_at "w"
        refine s_for (j_str ?_)
        walk_at "w"
        refine ⟨_, _, _, walk_str, fun i σ' H' => (∃ v, σ' = [some (.str z), v]) ∧ H' = H ∧ ((tl z).take i).all isDigC = true, ⟨⟨_, rfl⟩, rfl, rfl⟩, fun _ _ _ _ _ => trivial, ?_, ?_⟩
        · rintro i x σ' H' H2 hi ⟨⟨v, rfl⟩, rfl, hall⟩ ⟨rfl, c, hc, rfl⟩
          have hc' : (tl z)[i]? = some c := by simpa [tl] using hc
          walk_at "w"
          rw [in_figs]
          cases d : isDigC c with
          | true =>
            walk_at "w"
            exact ⟨⟨_, rfl⟩, rfl, by rw [all_snoc hc', hall, d]; rfl⟩
          | false =>
            walk_at "w"
            exact no (by rw [go]; exact all_cut hc' d)
        · rintro σ' H' ⟨⟨v, rfl⟩, rfl, hall⟩
          walk_at "w"
          rw [show z.cps.size = (tl z).length by simp [tl], List.take_length] at hall
          have e2 : readFigs z = some ((NumText.digitsVal (tl z) : Nat) : Int) := by unfold readFigs; rw [go, hall]; rfl
          rw [e2] at h
          have hd : NumText.AllDigits z.cps.toList := fun c hc => by
            have := List.all_eq_true.mp hall c hc
            simpa [isDigC] using this
          exact k_intS (intText_digits hd (by rw [show z.cps.toList = a :: l from hl]; simp) (by omega)) (by omega) h
      refine iteD (fun c3 => ?_) fun c3 => ?_
      · walk_at "w"
        refine k_lenS (sz1m hz) ?_
        walk_at "w"
        refine iteD (fun c4 => ?_) fun c4 => ?_
        · walk_at "w"
          refine no ?_
          unfold figsOk
          rw [hl] at hlen ⊢
          rw [decide_eq_true (show 1 < (a :: l).length by omega), c3]
          simp
        · exact b_nil (rest (by rw [hl] at hlen; omega))
      · exact iteF (b_nil (rest fun k => c3 k.1))
theorem df_law_figures (T : Txt K mg cs) : Df P w K mg base "_law_figures" 1 ["_law_word"] (sp1 (R_law_figures)) := by
  obtain ⟨f, fd, hm, F, hb⟩ := T.f_law_figures.ex
  exact ⟨f, fd, hm, F.kp, hb, ok_law_figures F T⟩
def R_law_is_name : V → Hp → VK → XK → Prop := fun x H Q _ => ∃ z, x = .str z ∧ z.length ≤ 1000000 ∧ Q (.bl (isNameS z)) H
theorem ok_law_is_name {f : Addr} {fd : FuncData} (F : Fun K "_law_is_name" "_law_is_name" s_law_is_name f fd) (T : Txt K mg cs) : FnOk P w K mg base (L2.CX P w) 1 f fd ["_law_word"] (sp1 (R_law_is_name)) := by
  refine F.okX sc_law_is_name (fun vs H Q E h => sp1_len h) (fun cdv A outer s H vs Q E hr h => ⟨_, PBw (X := X_law_is_name P w K mg base f cdv A outer s H E), ?_⟩)
  obtain ⟨a0, rfl, h⟩ := h
  have ib_len := T.b_len
  have hr' : Room 0 (X_law_is_name P w K mg base f cdv A outer s H E).A := hr
  replace hr := hr'
  clear hr'
  obtain ⟨z, rfl, hz, h⟩ := h
  walk_at "w"
  refine k_lenS (sz1m hz) ?_
  walk_at "w"
  have hbad : ¬ (1 ≤ z.length ∧ z.length ≤ 8) → isNameS z = false := fun c => by
    unfold isNameS
    by_cases c1 : 1 ≤ z.length <;> by_cases c2 : z.length ≤ 8 <;> simp [c1, c2]
    exact absurd ⟨c1, c2⟩ c
  refine iteD (fun c1 => ?_) fun c1 => ?_
  · walk_at "w"
    rw [hbad (by omega)] at h
    exact h
  · walk_at "w"
    refine k_lenS (sz1m hz) ?_
    walk_at "w"
    refine iteD (fun c2 => ?_) fun c2 => ?_
    · walk_at "w"
      rw [hbad (by omega)] at h
      exact h
    · walk_at "w"
      have hgood : isNameS z = (tl z).all fun c => decide (65 ≤ c) && decide (c ≤ 90) := by
        unfold isNameS
        rw [decide_eq_true (show 1 ≤ z.length by omega), decide_eq_true (show z.length ≤ 8 by omega)]
        rfl
      rw [hgood] at h
      refine s_for (j_str ?_)
      walk_at "w"
      refine ⟨_, _, _, walk_str, fun i σ' H' => (∃ v, σ' = [some (.str z), v]) ∧ H' = H ∧ ((tl z).take i).all (fun c => decide (65 ≤ c) && decide (c ≤ 90)) = true, ⟨⟨_, rfl⟩, rfl, rfl⟩, fun _ _ _ _ _ => trivial, ?_, ?_⟩
      · rintro i x σ' H' H2 hi ⟨⟨v, rfl⟩, rfl, hall⟩ ⟨rfl, c, hc, rfl⟩
        have hc' : (tl z)[i]? = some c := by simpa [tl] using hc
        walk_at "w"
        rw [in_abc]
        cases d : (decide (65 ≤ c) && decide (c ≤ 90)) with
        | true =>
          walk_at "w"
          exact ⟨⟨_, rfl⟩, rfl, by rw [all_snoc hc', hall, d]; rfl⟩
        | false =>
          walk_at "w"
          rw [all_cut hc' d] at h
          exact h
      · rintro σ' H' ⟨⟨v, rfl⟩, rfl, hall⟩
        walk_at "w"
        rw [show z.cps.size = (tl z).length by simp [tl], List.take_length] at hall
        rw [hall] at h
        exact h
theorem df_law_is_name (T : Txt K mg cs) : Df P w K mg base "_law_is_name" 1 ["_law_word"] (sp1 (R_law_is_name)) := by
  obtain ⟨f, fd, hm, F, hb⟩ := T.f_law_is_name.ex
  exact ⟨f, fd, hm, F.kp, hb, ok_law_is_name F T⟩
theorem lo_ex (c : Nat) : (!decide (tl (⟨#[c]⟩ : Str) < tl (Str.ofString "!"))) = decide (33 ≤ c) := by
  have e : tl (Str.ofString "!") = [33] := by decide +kernel
  rw [e]
  by_cases h : 33 ≤ c
  · rw [decide_eq_true h, decide_eq_false (show ¬ ([c] < [33]) from fun q => by have := (lt1 c 33).mp q; omega)]; rfl
  · rw [decide_eq_false h, decide_eq_true (show ([c] < [33]) from (lt1 c 33).mpr (by omega))]; rfl
/-- a word that writes a part -/
def okW (p : Str) : Bool := isPartS (readPart p)
theorem okW_q : okW (Str.ofString "'") = true := by decide +kernel
theorem okW_of {p : Str} (h : ¬ p = Str.ofString "'") : okW p = (isSignS p || isNameS p) := by
  unfold okW readPart
  rw [if_neg h]
  rfl
theorem sign_eq {p : Str} (h : ∀ c ∈ tl p, c ≠ 32 ∧ c ≠ 37) (a c : Nat) (e : tl p = [a, c]) : isSignS p = (decide (a = 39) && (decide (33 ≤ c) && decide (c ≤ 126))) := by
  unfold isSignS
  rw [e]
  have := h c (by rw [e]; simp)
  show (decide (a = 39) && okc c) = _
  congr 1
  unfold okc
  rw [decide_eq_false this.2]
  simp only [Bool.not_false, Bool.and_true]
  congr 1
  exact decide_eq_decide.mpr (by omega)
theorem sign_no {p : Str} (h : ¬ p.length = 2) : isSignS p = false := by
  cases e : isSignS p with
  | false => rfl
  | true => exact absurd (sign_len e) h
theorem read_good {w0 w1 : Str} {ps : List Str} : (readFigs w1).bind (fun w => if goodR ⟨w0, ps.map readPart, w⟩ = true then some (⟨w0, ps.map readPart, w⟩ : Rl) else none) =
    if (isNameS w0 && (decide (ps.length ≤ 6) && ps.all okW)) = true then (readFigs w1).bind (fun w => if (decide (0 ≤ w) && decide (w ≤ top60)) = true then some ⟨w0, ps.map readPart, w⟩ else none) else none := by
  have e : ∀ w, goodR ⟨w0, ps.map readPart, w⟩ = ((isNameS w0 && (decide (ps.length ≤ 6) && ps.all okW)) && (decide (0 ≤ w) && decide (w ≤ top60))) := fun w => by
    show ((isNameS w0 && (decide ((ps.map readPart).length ≤ 6) && (ps.map readPart).all isPartS)) && _) = _
    rw [List.length_map, List.all_map]
    rfl
  simp only [e]
  cases (isNameS w0 && (decide (ps.length ≤ 6) && ps.all okW)) with
  | true => simp
  | false => cases readFigs w1 <;> simp
theorem figs_lo {z : Str} {n : Int} (h : readFigs z = some n) : 0 ≤ n := by
  unfold readFigs at h
  split at h
  · cases h; omega
  · cases h
def R_law_due (K : PySem.W.Frag) : V → Hp → VK → XK → Prop := fun x H Q _ => ∃ z, x = .str z ∧ z.length ≤ 100000 ∧ noPc z ∧ (∀ r, readRule z = some r → ∀ v H', Same H H' → RuleAt H' v r → Q v H') ∧ (readRule z = none → ∀ H', Same H H' → Q .non H')
theorem ok_law_due {f : Addr} {fd : FuncData} (F : Fun K "_law_due" "_law_due" s_law_due f fd) (T : Txt K mg cs) : FnOk P w K mg base (L2.CX P w) 2 f fd ["_law_text"] (sp1 (R_law_due K)) := by
  refine F.okX sc_law_due (fun vs H Q E h => sp1_len h) (fun cdv A outer s H vs Q E hr h => ⟨_, PBw (X := X_law_due P w K mg base f cdv A outer s H E), ?_⟩)
  obtain ⟨a0, rfl, h⟩ := h
  have ib_tuple := T.b_tuple
  have ib_len := T.b_len
  have hr' : Room 1 (X_law_due P w K mg base f cdv A outer s H E).A := hr
  replace hr := hr'
  clear hr'
  obtain ⟨z, rfl, hz, hpc, h1, h2⟩ := h
  walk_at "w"
  refine e_split ?_
  walk_at "w"
  refine ⟨⟨_, rfl⟩, ?_⟩
  walk_at "w"
  refine m_split (by decide +kernel) (by omega) fun l1 H1 s1 n1 k1 _ => ?_
  obtain ⟨hlen, hsp⟩ := split_len z
  have hmem := split_mem z
  have hrr : readRule z = readWords (Txt.split z " ") := rfl
  generalize hw : Txt.split z " " = ws at *
  have hcs : ∀ y ∈ ws, ∀ c ∈ tl y, c ≠ 32 ∧ c ≠ 37 := fun y hy c hc => ⟨(hmem y hy c hc).1, fun e => hpc (by rw [← e]; exact (hmem y hy c hc).2)⟩
  walk_at "w"
  refine k_lenL (SqL.of k1) ?_
  walk_at "w"
  rw [List.length_map]
  match ws, hrr with
  | [], hrr => refine iteT ?_; walk_at "w"; exact h2 hrr _ s1
  | [_], hrr => refine iteT ?_; walk_at "w"; exact h2 hrr _ s1
  | [_, _], hrr => refine iteT ?_; walk_at "w"; exact h2 hrr _ s1
  | w0 :: w1 :: w2 :: ps, hrr =>
    refine iteD (fun c => absurd c (by simp only [List.length_cons]; omega)) fun _ => ?_
    have hps : ∀ p ∈ ps, p.length ≤ z.length := fun p hp => hsp p (by simp [hp])
    have hpl : ps.length ≤ z.length := by simp only [List.length_cons] at hlen; omega
    have none_of : (w2 = Str.ofString "=" → (isNameS w0 && (decide (ps.length ≤ 6) && ps.all okW)) = false) → readRule z = none := fun k => by
      refine hrr.trans ?_
      show (if w2 = ("=" : Str) then _ else none) = none
      by_cases e : w2 = ("=" : Str)
      · rw [if_pos e, read_good, if_neg (by rw [k e]; simp)]
      · rw [if_neg e]
    walk_at "w"
    refine k_lenL (SqL.of k1) ?_
    walk_at "w"
    refine iteD (fun c => ?_) fun c9 => ?_
    · walk_at "w"
      refine h2 (none_of fun _ => ?_) _ s1
      have : ¬ ps.length ≤ 6 := by simp only [List.map_cons, List.length_cons, List.length_map] at c; omega
      rw [decide_eq_false this]; simp
    have few : ps.length ≤ 6 := by simp only [List.map_cons, List.length_cons, List.length_map] at c9; omega
    walk_at "w"
    refine e_call (df_law_is_name T) (hr.mono (by decide)) ?_
    walk_at "w"
    refine i_lst (SqL.of k1) (v := .str w0) (atI_nat (by decide) rfl) ?_
    walk_at "w"
    refine ⟨Nat.le_trans (hsp w0 (by simp)) (by omega), ?_⟩
    walk_at "w"
    cases hn : isNameS w0 with
    | false =>
      walk_at "w"
      exact h2 (none_of fun _ => by rw [hn]; rfl) _ s1
    | true =>
    walk_at "w"
    refine i_lst (SqL.of k1) (v := .str w2) (atI_nat (by decide) rfl) ?_
    walk_at "w"
    refine iteND (fun c => ?_) fun c => ?_
    · walk_at "w"
      exact h2 (none_of fun e => absurd e c) _ s1
    have hrr2 : readRule z = if (isNameS w0 && (decide (ps.length ≤ 6) && ps.all okW)) = true then (readFigs w1).bind (fun w => if (decide (0 ≤ w) && decide (w ≤ top60)) = true then some ⟨w0, ps.map readPart, w⟩ else none) else none :=
      (hrr.trans (if_pos c)).trans read_good
    rw [hn, decide_eq_true few, Bool.true_and, Bool.true_and] at hrr2
    walk_at "w"
    refine e_call (df_law_figures T) (hr.mono (by decide)) ?_
    walk_at "w"
    refine i_lst (SqL.of k1) (v := .str w1) (atI_nat (by decide) rfl) ?_
    walk_at "w"
    refine ⟨Nat.le_trans (hsp w1 (by simp)) (by omega), ?_⟩
    walk_at "w"
    cases hf : readFigs w1 with
    | none =>
      walk_at "w"
      refine h2 (hrr2.trans ?_) _ s1
      rw [hf]
      cases ps.all okW <;> rfl
    | some n =>
      have n0 := figs_lo hf
      rw [show figN (some n) = n from rfl]
      rw [hf] at hrr2
      refine iteD (fun c => absurd c (by omega)) fun _ => ?_
      walk_at "w"
      refine iteD (fun c => ?_) fun c60 => ?_
      · walk_at "w"
        refine h2 (hrr2.trans ?_) _ s1
        show (if _ then (if (decide (0 ≤ n) && decide (n ≤ top60)) = true then _ else _) else _) = _
        rw [if_neg (show ¬ (decide (0 ≤ n) && decide (n ≤ top60)) = true from fun q => by
          simp only [Bool.and_eq_true, decide_eq_true_eq] at q
          exact absurd q.2 (by show ¬ n ≤ (1000000000000000000000000000000000000000000000000000000000000 : Int); omega))]
        rw [ite_self]
      have hrr3 : readRule z = if ps.all okW = true then some ⟨w0, ps.map readPart, n⟩ else none := hrr2.trans (by
        show (if _ then (if (decide (0 ≤ n) && decide (n ≤ top60)) = true then _ else _) else _) = _
        rw [if_pos (show (decide (0 ≤ n) && decide (n ≤ top60)) = true by
          rw [decide_eq_true n0, decide_eq_true (show n ≤ top60 by show n ≤ (1000000000000000000000000000000000000000000000000000000000000 : Int); omega)]; rfl)])
      walk_at "w"
      intro l2 H2 s2 n2 k2 _
      walk_at "w"
      refine s_for (j_list ?_)
      walk_at "w"
      refine n_lst (SqL.of (s2 _ _ k1)) fun l3 H3 s3 n3 k3 _ => ?_
      rw [cutV_from _ (by decide)] at k3
      have k3 : H3 l3 = some (.lst (ps.map V.str)) := k3
      have k2' := s3 _ _ k2
      have n32 : l3 ≠ l2 := fun z => by rw [z, k2] at n3; cases n3
      have sam : ∀ {H' : Hp}, (∀ b, b ≠ l2 → H' b = H3 b) → Same H1 H' := fun k b o e => by
        rw [k b (ne_of_none e n2)]
        exact s3 _ _ (s2 _ _ e)
      refine ⟨l3, rfl, ⟨_, SqL.of k3⟩, _, _, _, walk_list (xs := ps.map V.str), fun i σ' H' => (∃ v, σ' = [some (.str z), some (.ref l1), some (.int n), some (.ref l2), v]) ∧ H' l2 = some (.lst ((ps.take i).map fun p => V.str (readPart p))) ∧ (∀ b, b ≠ l2 → H' b = H3 b) ∧ (ps.take i).all okW = true, ⟨⟨_, rfl⟩, k2', fun _ _ => rfl, rfl⟩, fun _ _ _ _ ⟨_, _, e, _⟩ => SqL.of (by rw [e _ n32]; exact k3), ?_, ?_⟩
      · rintro i x σ' H' H4 hi ⟨⟨v, rfl⟩, k4, e4, hall⟩ ⟨rfl, hx⟩
        rw [List.getElem?_map] at hx
        obtain ⟨p, hp, rfl⟩ : ∃ p, ps[i]? = some p ∧ V.str p = x := by
          cases e : ps[i]? with
          | none => rw [e] at hx; cases hx
          | some p => rw [e] at hx; exact ⟨p, rfl, Option.some.inj hx⟩
        have pm := List.mem_of_getElem? hp
        have pc := hcs p (by simp [pm])
        have plen : p.length ≤ 100000 := Nat.le_trans (hps p pm) hz
        have bad : okW p = false → readRule z = none := fun q => hrr3.trans (if_neg (by rw [all_cut hp q]; simp))
        have step : okW p = true → ∀ H5 : Hp, H5 l2 = some (.lst ((ps.take i).map (fun p => V.str (readPart p)) ++ [V.str (readPart p)])) → (∀ b, b ≠ l2 → H5 b = H4 b) → H5 l2 = some (.lst ((ps.take (i + 1)).map fun p => V.str (readPart p))) ∧ (∀ b, b ≠ l2 → H5 b = H3 b) ∧ (ps.take (i + 1)).all okW = true := fun q H5 k5 e5 =>
          ⟨by rw [k5, List.take_add_one, hp, Option.toList_some, List.map_append]; rfl, fun b hb => (e5 b hb).trans (e4 b hb), by rw [all_snoc hp, hall, q]; rfl⟩
        have room : ((ps.take i).map fun p => V.str (readPart p)).length < 100000 := by rw [List.length_map, List.length_take]; omega
        walk_at "w"
        refine iteD (fun c => ?_) fun c => ?_
        · walk_at "w"
          refine e_append ?_
          walk_at "w"
          refine ⟨ty_l k4, ?_⟩
          walk_at "w"
          refine m_append k4 room fun H5 k5 e5 => ?_
          walk_at "w"
          have er : readPart p = Str.ofString "' " := if_pos c
          exact ⟨⟨_, rfl⟩, step (by rw [c]; exact okW_q) H5 (by rw [er]; exact k5) e5⟩
        · have er : readPart p = p := if_neg c
          have eo := okW_of c
          walk_at "w"
          refine e_call (df_law_is_name T) (hr.mono (by decide)) ?_
          walk_at "w"
          refine ⟨by omega, ?_⟩
          walk_at "w"
          cases hnm : isNameS p with
          | true =>
            walk_at "w"
            refine e_append ?_
            walk_at "w"
            refine ⟨ty_l k4, ?_⟩
            walk_at "w"
            refine m_append k4 room fun H5 k5 e5 => ?_
            walk_at "w"
            exact ⟨⟨_, rfl⟩, step (by rw [eo, hnm, Bool.or_true]) H5 (by rw [er]; exact k5) e5⟩
          | false =>
            walk_at "w"
            rw [hnm, Bool.or_false] at eo
            have fail : okW p = false → Q .non H4 := fun q => h2 (bad q) _ (s1.trans (sam e4))
            refine k_lenS (sz1m (by omega)) ?_
            walk_at "w"
            refine iteD (fun c2 => ?_) fun c2 => ?_
            · obtain ⟨a, c', ep⟩ : ∃ a c', tl p = [a, c'] := by
                have : (tl p).length = 2 := by rw [← len_tl]; omega
                match tl p, this with
                | [a, c'], _ => exact ⟨a, c', rfl⟩
              have es := sign_eq pc a c' ep
              walk_at "w"
              refine i_str (sz1m (by omega)) (c := a) (by rw [show p.cps.toList = [a, c'] from ep]; rfl) ?_
              walk_at "w"
              rw [is_quote]
              refine iteD (fun c3 => ?_) fun c3 => ?_
              · walk_at "w"
                refine i_str (sz1m (by omega)) (c := c') (by rw [show p.cps.toList = [a, c'] from ep]; rfl) ?_
                walk_at "w"
                rw [lo_ex]
                refine iteD (fun c4 => ?_) fun c4 => ?_
                · walk_at "w"
                  rw [hi_ti]
                  refine iteD (fun c5 => ?_) fun c5 => ?_
                  · walk_at "w"
                    refine e_append ?_
                    walk_at "w"
                    refine ⟨ty_l k4, ?_⟩
                    walk_at "w"
                    refine m_append k4 room fun H5 k5 e5 => ?_
                    walk_at "w"
                    exact ⟨⟨_, rfl⟩, step (by rw [eo, es, decide_eq_true c3, decide_eq_true c4, decide_eq_true c5]; rfl) H5 (by rw [er]; exact k5) e5⟩
                  · walk_at "w"
                    exact fail (by rw [eo, es, decide_eq_false c5, Bool.and_false, Bool.and_false])
                · walk_at "w"
                  exact fail (by rw [eo, es, decide_eq_false c4, Bool.false_and, Bool.and_false])
              · walk_at "w"
                exact fail (by rw [eo, es, decide_eq_false c3, Bool.false_and])
            · walk_at "w"
              exact fail (by rw [eo]; exact sign_no (by omega))
      · rintro σ' H' ⟨⟨v, rfl⟩, k4, e4, hall⟩
        rw [List.length_map, List.take_length] at k4
        rw [List.length_map, List.take_length] at hall
        walk_at "w"
        refine i_lst (SqL.of (sam e4 _ _ k1)) (v := .str w0) (atI_nat (by decide) rfl) ?_
        walk_at "w"
        refine k_tupL (SqL.of k4) fun l5 H5 s5 n5 k5 _ => ?_
        walk_at "w"
        intro l6 H6 s6 n6 k6 _
        walk_at "w"
        refine h1 ⟨w0, ps.map readPart, n⟩ (hrr3.trans (if_pos hall)) _ _ (s1.trans ((sam e4).trans (s5.trans s6))) ⟨l6, l5, rfl, k6, ?_⟩
        rw [s6 _ _ k5, List.map_map]
        rfl
theorem df_law_due (T : Txt K mg cs) : Df P w K mg base "_law_due" 2 ["_law_text"] (sp1 (R_law_due K)) := by
  obtain ⟨f, fd, hm, F, hb⟩ := T.f_law_due.ex
  exact ⟨f, fd, hm, F.kp, hb, ok_law_due F T⟩
theorem noPc_app {a b : Str} (h : noPc a) (k : noPc b) : noPc (a ++ b) := by
  unfold noPc
  rw [tl_append]
  intro q
  rcases List.mem_append.mp q with q | q
  · exact h q
  · exact k q
theorem noPc_to {z : Str} {i : Int} (h : noPc z) (h0 : 0 ≤ i) : noPc (cutS z none (some i)) := by
  unfold noPc
  rw [cutS_to z h0]
  exact fun q => h (List.mem_of_mem_take q)
theorem noPc_from {z : Str} {i : Int} (h : noPc z) (h0 : 0 ≤ i) : noPc (cutS z (some i) none) := by
  unfold noPc
  rw [cutS_from z h0]
  exact fun q => h (List.mem_of_mem_drop q)
theorem noPc_one {c : Nat} (h : c ≠ 37) : noPc ⟨#[c]⟩ := by
  intro q
  have : 37 = c := by simpa [tl] using q
  exact h this.symm
theorem len_to (z : Str) {i : Int} (h : 0 ≤ i) : (cutS z none (some i)).length = min i.toNat z.length := by rw [len_tl, cutS_to z h, List.length_take, ← len_tl]
theorem len_from (z : Str) {i : Int} (h : 0 ≤ i) : (cutS z (some i) none).length = z.length - i.toNat := by rw [len_tl, cutS_from z h, List.length_drop, ← len_tl]
def R_law_spoilt : V → V → Hp → VK → XK → Prop := fun x y H Q _ => ∃ z i, x = .str z ∧ y = .int i ∧ z.length ≤ 1000 ∧ noPc z ∧ ∀ z', z'.length ≤ z.length + 1 → noPc z' → Q (.str z') H
theorem ok_law_spoilt {f : Addr} {fd : FuncData} (F : Fun K "_law_spoilt" "_law_spoilt" s_law_spoilt f fd) (T : Txt K mg cs) : FnOk P w K mg base (L2.CX P w) 1 f fd ["_law_text", "_law_cell"] (sp2 (R_law_spoilt)) := by
  refine F.okX sc_law_spoilt (fun vs H Q E h => sp2_len h) (fun cdv A outer s H vs Q E hr h => ⟨_, PBw (X := X_law_spoilt P w K mg base f cdv A outer s H E), ?_⟩)
  obtain ⟨a0, a1, rfl, h⟩ := h
  have ib_len := T.b_len
  have hr' : Room 0 (X_law_spoilt P w K mg base f cdv A outer s H E).A := hr
  replace hr := hr'
  clear hr'
  obtain ⟨z, i, rfl, rfl, hz, hp, h⟩ := h
  walk_at "w"
  refine k_lenS (by rw [sizeLine_eq]; omega) ?_
  walk_at "w"
  refine o_mod (by omega) ?_
  have a0 : 0 ≤ i / 3 % ((z.length : Int) + 1) := Int.emod_nonneg _ (by omega)
  have a1 : i / 3 % ((z.length : Int) + 1) < (z.length : Int) + 1 := Int.emod_lt_of_pos _ (by omega)
  generalize i / 3 % ((z.length : Int) + 1) = at' at *
  walk_at "w"
  obtain ⟨c, hc, hc37⟩ := atI_all (P := fun c => c ≠ 37) (xs := tl (Str.ofString "' =0917aAZz[@~-+_\n\t.")) (i := i / 331 % 20) (by omega) (by
    have : (tl (Str.ofString "' =0917aAZz[@~-+_\n\t.")).length = 20 := by decide +kernel
    omega) (by decide +kernel)
  refine i_str (by decide +kernel) hc ?_
  have one : (⟨#[c]⟩ : Str).length = 1 := rfl
  have e1 := len_to z a0
  have e2 := len_from z a0
  have e3 := len_from z (i := at' + 1) (by omega)
  have p1 := noPc_to hp a0
  have p2 := noPc_from hp a0
  have p3 := noPc_from (i := at' + 1) hp (by omega)
  have pc := noPc_one hc37
  walk_at "w"
  refine iteD (fun c => ?_) fun c => ?_
  · walk_at "w"
    refine n_str (by rw [sizeLine_eq]; omega) ?_
    walk_at "w"
    refine n_str (by rw [sizeLine_eq]; omega) ?_
    refine o_cat (by rw [sizeLine_eq]; omega) ?_
    walk_at "w"
    exact h _ (by rw [lenA]; omega) (noPc_app p1 p3)
  · walk_at "w"
    refine iteD (fun c => ?_) fun c => ?_
    · walk_at "w"
      refine n_str (by rw [sizeLine_eq]; omega) ?_
      walk_at "w"
      refine o_cat (by rw [sizeLine_eq]; omega) ?_
      walk_at "w"
      refine n_str (by rw [sizeLine_eq]; omega) ?_
      refine o_cat (by rw [lenA, sizeLine_eq]; omega) ?_
      walk_at "w"
      exact h _ (by rw [lenA, lenA]; omega) (noPc_app (noPc_app p1 pc) p2)
    · walk_at "w"
      refine n_str (by rw [sizeLine_eq]; omega) ?_
      walk_at "w"
      refine o_cat (by rw [sizeLine_eq]; omega) ?_
      walk_at "w"
      refine n_str (by rw [sizeLine_eq]; omega) ?_
      refine o_cat (by rw [lenA, sizeLine_eq]; omega) ?_
      walk_at "w"
      exact h _ (by rw [lenA, lenA]; omega) (noPc_app (noPc_app p1 pc) p3)
theorem df_law_spoilt (T : Txt K mg cs) : Df P w K mg base "_law_spoilt" 1 ["_law_text", "_law_cell"] (sp2 (R_law_spoilt)) := by
  obtain ⟨f, fd, hm, F, hb⟩ := T.f_law_spoilt.ex
  exact ⟨f, fd, hm, F.kp, hb, ok_law_spoilt F T⟩
def R_law_refused (K : PySem.W.Frag) : V → Hp → VK → XK → Prop := fun x H Q _ => ((∃ z, x = .str z ∧ z.length ≤ 100000 ∧ readRule z = none) ∨ (∃ d, Th K H x d ∧ isK d "str" = false)) ∧ ∀ H', Same H H' → Q (.bl true) H'
theorem ok_law_refused {f : Addr} {fd : FuncData} (F : Fun K "_law_refused" "_law_refused" s_law_refused f fd) (T : Txt K mg cs) : FnOk P w K mg base (L2.CX P w) 6 f fd ["_law_text"] (sp1 (R_law_refused K)) := by
  refine F.okX sc_law_refused (fun vs H Q E h => sp1_len h) (fun cdv A outer s H vs Q E hr h => ⟨_, PBw (X := X_law_refused P w K mg base f cdv A outer s H E), ?_⟩)
  obtain ⟨a0, rfl, h⟩ := h
  have ib_ForestError : Gn mg "ForestError" (some _) := ⟨T.x_ForestError.mg⟩
  have ib_isinstance := T.b_isinstance
  have ib_NoRule : Gn mg "NoRule" (some _) := ⟨T.x_NoRule.mg⟩
  have ib_ValueError := T.b_ValueError
  have ib_NoGrammar : Gn mg "NoGrammar" (some _) := ⟨T.x_NoGrammar.mg⟩
  have ib_NoRow : Gn mg "NoRow" (some _) := ⟨T.x_NoRow.mg⟩
  have ib_NoText : Gn mg "NoText" (some _) := ⟨T.x_NoText.mg⟩
  have hr' : Room 5 (X_law_refused P w K mg base f cdv A outer s H E).A := hr
  replace hr := hr'
  clear hr'
  obtain ⟨h0, h⟩ := h
  walk_at "w"
  refine s_tryC (fun cls dd σ' H' => cls = .ref cs.NoRule ∧ dd = none ∧ Same H H' ∧ σ' = [some a0, some .non, none]) ?_ ?_
  · rintro cls dd σ' H' ⟨rfl, rfl, sx, rfl⟩
    refine .hitAs (i := 2) sc_law_refused.nd rfl rfl ⟨rfl, by decide, .inl T.x_ForestError.mg⟩ (T.x_ForestError.exm T.s_NoRule_ForestError) fun a oe pn ha hz hf => ?_
    walk_at "w"
    intro H2 s2 k2
    walk_at "w"
    refine k_isK T.x_NoRule T.x_NoRule k2 T.s_NoRule_NoRule ?_
    walk_at "w"
    refine k_isKV T.x_NoRule k2 ?_
    walk_at "w"
    refine e_and ?_
    walk_at "w"
    refine k_isK T.x_NoRule T.x_NoGrammar k2 T.s_NoRule_NoGrammar ?_
    walk_at "w"
    refine e_and ?_
    walk_at "w"
    refine k_isK T.x_NoRule T.x_NoRow k2 T.s_NoRule_NoRow ?_
    walk_at "w"
    refine k_isK T.x_NoRule T.x_NoText k2 T.s_NoRule_NoText ?_
    walk_at "w"
    exact h _ (sx.trans s2)
  · intro pn xe ct co
    walk_at "w"
    refine e_call (df_read_rule T) (hr.mono (by decide)) ?_
    walk_at "w"
    rcases h0 with ⟨z, rfl, hz, hn⟩ | ⟨d, hd, hb⟩
    · exact .inl ⟨z, rfl, hz, fun r hr => absurd (hn.symm.trans hr) (by simp), fun _ H' s' => ⟨rfl, rfl, s', rfl⟩⟩
    · exact .inr ⟨d, hd, hb, fun H' s' => ⟨rfl, rfl, s', rfl⟩⟩
theorem df_law_refused (T : Txt K mg cs) : Df P w K mg base "_law_refused" 6 ["_law_text"] (sp1 (R_law_refused K)) := by
  obtain ⟨f, fd, hm, F, hb⟩ := T.f_law_refused.ex
  exact ⟨f, fd, hm, F.kp, hb, ok_law_refused F T⟩
theorem read_rule_good {z : Str} {r : Rl} (h : readRule z = some r) : GoodR r := by
  unfold readRule at h
  match Txt.split z " ", h with
  | w0 :: w1 :: w2 :: ps, h =>
    have h : (if w2 = Str.ofString "=" then (readFigs w1).bind fun w => if goodR ⟨w0, ps.map readPart, w⟩ = true then some (⟨w0, ps.map readPart, w⟩ : Rl) else none else none) = some r := h
    by_cases c : w2 = Str.ofString "="
    · rw [if_pos c] at h
      cases hf : readFigs w1 with
      | none => rw [hf] at h; cases h
      | some n =>
        rw [hf] at h
        have h : (if goodR ⟨w0, ps.map readPart, n⟩ = true then some (⟨w0, ps.map readPart, n⟩ : Rl) else none) = some r := h
        by_cases hg : goodR ⟨w0, ps.map readPart, n⟩ = true
        · rw [if_pos hg] at h
          cases h
          exact goodR_iff.mp hg
        · rw [if_neg hg] at h
          cases h
    · rw [if_neg c] at h
      cases h
  | [], h => cases h
  | [_], h => cases h
  | [_, _], h => cases h
def R_law_right (K : PySem.W.Frag) : V → Hp → VK → XK → Prop := fun x H Q _ => ∃ z, x = .str z ∧ z.length ≤ 100000 ∧ noPc z ∧ ∀ H', Same H H' → Q (.bl true) H'
theorem ok_law_right {f : Addr} {fd : FuncData} (F : Fun K "_law_right" "_law_right" s_law_right f fd) (T : Txt K mg cs) : FnOk P w K mg base (L2.CX P w) 7 f fd ["_law_text"] (sp1 (R_law_right K)) := by
  refine F.okX sc_law_right (fun vs H Q E h => sp1_len h) (fun cdv A outer s H vs Q E hr h => ⟨_, PBw (X := X_law_right P w K mg base f cdv A outer s H E), ?_⟩)
  obtain ⟨a0, rfl, h⟩ := h
  have hr' : Room 6 (X_law_right P w K mg base f cdv A outer s H E).A := hr
  replace hr := hr'
  clear hr'
  obtain ⟨z, rfl, hz, hp, h⟩ := h
  walk_at "w"
  refine e_call (df_law_due T) (hr.mono (by decide)) ?_
  walk_at "w"
  refine ⟨hz, hp, fun r hrr v H1 s1 hv => ?_, fun hn H1 s1 => ?_⟩
  · obtain ⟨a, b, ev, f1, f2⟩ := id hv
    subst ev
    walk_at "w"
    refine e_call (df_law_alike T) (hr.mono (by decide)) ?_
    refine a_cons ?_
    refine e_call (df_read_rule T) (hr.mono (by decide)) ?_
    walk_at "w"
    refine .inl ⟨z, rfl, hz, fun r' hr' v2 H2 s2 hv2 => ?_, fun hn => absurd (hn.symm.trans hrr) (by simp)⟩
    obtain rfl : r = r' := Option.some.inj (hrr.symm.trans hr')
    walk_at "w"
    refine ⟨r, read_rule_good hrr, hv2, hv.more s2, ?_⟩
    exact h _ (s1.trans s2)
  · walk_at "w"
    refine e_call (df_law_refused T) (hr.mono (by decide)) ?_
    walk_at "w"
    exact ⟨.inl ⟨z, rfl, hz, hn⟩, fun H2 s2 => h _ (s1.trans s2)⟩
theorem df_law_right (T : Txt K mg cs) : Df P w K mg base "_law_right" 7 ["_law_text"] (sp1 (R_law_right K)) := by
  obtain ⟨f, fd, hm, F, hb⟩ := T.f_law_right.ex
  exact ⟨f, fd, hm, F.kp, hb, ok_law_right F T⟩
theorem noPc_num {n : Nat} {i : Int} (h : i = (n : Int)) : noPc (Str.ofString (toString i)) := by
  subst h
  unfold noPc
  rw [show tl (Str.ofString (toString (n : Int))) = numL n from tl_num n]
  intro q
  have := numL_digits n 37 q
  omega
theorem len_num {n k : Nat} {i : Int} (h : i = (n : Int)) (h1 : 0 < k) (h2 : n < 10 ^ k) : (Str.ofString (toString i)).length ≤ k := by
  subst h
  rw [len_tl, show tl (Str.ofString (toString (n : Int))) = numL n from tl_num n]
  exact numL_len h1 h2
/-- a word of the odd ones -/
def odd (n : Nat) (z : Str) : Prop := noPc z ∧ z.length ≤ n
instance (z : Str) : Decidable (noPc z) := by unfold noPc; infer_instance
instance (n : Nat) (z : Str) : Decidable (odd n z) := by unfold odd; infer_instance
theorem noPc_name {z : Str} (h : isNameS z = true) : noPc z := name_free h (by decide)
def R_law_odd (K : PySem.W.Frag) : V → Hp → VK → XK → Prop := fun x H Q _ => ∃ r, RuleAt H x r ∧ GoodR r ∧ ∀ (l : Addr) (H' : Hp) (zs : List Str), Same H H' → H' l = some (.lst (zs.map V.str)) → zs.length ≤ 100 → (∀ z ∈ zs, odd 200 z) → Q (.ref l) H'
theorem ok_law_odd {f : Addr} {fd : FuncData} (F : Fun K "_law_odd" "_law_odd" s_law_odd f fd) (T : Txt K mg cs) : FnOk P w K mg base (L2.CX P w) 1 f fd ["_law_rule_here"] (sp1 (R_law_odd K)) := by
  refine F.okX sc_law_odd (fun vs H Q E h => sp1_len h) (fun cdv A outer s H vs Q E hr h => ⟨_, PBw (X := X_law_odd P w K mg base f cdv A outer s H E), ?_⟩)
  obtain ⟨a0, rfl, h⟩ := h
  have ib_str := T.b_str
  have hr' : Room 0 (X_law_odd P w K mg base f cdv A outer s H E).A := hr
  replace hr := hr'
  clear hr'
  obtain ⟨r, ⟨a, b, rfl, f1, f2⟩, g, h⟩ := h
  have h8 := name_len g.head
  have hnp := noPc_name g.head
  walk_at "w"
  refine k_strI (by decide +kernel) ?_
  walk_at "w"
  refine k_strI (by decide +kernel) ?_
  walk_at "w"
  refine o_repS (by decide) (by decide) (by decide +kernel) fun y hy => ?_
  have hyl : y.length = 62 := by rw [len_tl, hy, List.length_flatten, List.map_replicate, List.sum_replicate_nat]; decide +kernel
  have hyp : noPc y := by
    unfold noPc
    rw [hy]
    intro q
    obtain ⟨l, hl, hc⟩ := List.mem_flatten.mp q
    rw [List.eq_of_mem_replicate hl] at hc
    exact absurd hc (by decide +kernel)
  walk_at "w"
  intro l1 H1 s1 n1 k1 _
  have q1 : odd 62 (Str.ofString (toString ((1000000000000000000000000000000000000000000000000000000000000 : Int) + 1))) := ⟨noPc_num (n := 1000000000000000000000000000000000000000000000000000000000001) rfl, len_num (n := 1000000000000000000000000000000000000000000000000000000000001) rfl (by decide) (by decide)⟩
  have q2 : odd 62 (Str.ofString (toString ((10 : Int) ^ (61 : Int).toNat))) := ⟨noPc_num (n := 10000000000000000000000000000000000000000000000000000000000000) (by decide), len_num (n := 10000000000000000000000000000000000000000000000000000000000000) (by decide) (by decide) (by decide)⟩
  obtain ⟨ws, ews, wl, wo⟩ : ∃ ws : List Str, H1 l1 = some (.lst (ws.map V.str)) ∧ ws.length = 13 ∧ ∀ w ∈ ws, odd 62 w := by
    refine ⟨[Str.ofString "00", Str.ofString "01", Str.ofString "-1", Str.ofString "+1", Str.ofString "", Str.ofString " ", _, _, y, Str.ofString "1_0", Str.ofString "0x1", Str.ofString "1.0", Str.ofString "A"], k1, rfl, ?_⟩
    intro w hw
    simp only [List.mem_cons, List.not_mem_nil, or_false] at hw
    rcases hw with rfl | rfl | rfl | rfl | rfl | rfl | rfl | rfl | rfl | rfl | rfl | rfl | rfl
    · decide +kernel
    · decide +kernel
    · decide +kernel
    · decide +kernel
    · decide +kernel
    · decide +kernel
    · exact q1
    · exact q2
    · exact ⟨hyp, by omega⟩
    · decide +kernel
    · decide +kernel
    · decide +kernel
    · decide +kernel
  clear k1 q1 q2 hyp hyl hy
  walk_at "w"
  refine s_setLcP (blkOk_by (sc := defScope s_law_odd) (own := [("_law_word", 4)]) (by decide +kernel)) (fun _ y => ∃ z, y = .str z ∧ odd 200 z) (j_list ?_)
  walk_at "w"
  refine ⟨⟨_, SqL.of ews⟩, _, _, _, walk_list (xs := ws.map V.str), by rw [List.length_map]; omega, fun H' s' => SqL.of (s' _ _ ews), ?_, ?_⟩
  · rintro n x H' H2 hn s' ⟨rfl, hx⟩
    rw [List.getElem?_map] at hx
    obtain ⟨p, hp, rfl⟩ : ∃ p, ws[n]? = some p ∧ V.str p = x := by
      cases e : ws[n]? with
      | none => rw [e] at hx; cases hx
      | some p => rw [e] at hx; exact ⟨p, rfl, Option.some.inj hx⟩
    obtain ⟨o1, o2⟩ := wo p (List.mem_of_getElem? hp)
    have l1 : (Str.ofString " ").length = 1 := by decide +kernel
    have l5 : (Str.ofString " = 'a").length = 5 := by decide +kernel
    refine ⟨Same.refl _, fun _ _ _ _ _ => ?_⟩
    walk_at "w"
    refine ⟨Same.refl _, fun _ _ _ _ _ => ?_⟩
    walk_at "w"
    refine i_tup (SqT.of (s' _ _ (s1 _ _ f1))) (v := .str r.head) rfl ?_
    walk_at "w"
    refine o_cat (by rw [l1, sizeLine_eq]; omega) ?_
    walk_at "w"
    refine o_cat (by rw [lenA, l1, sizeLine_eq]; omega) ?_
    walk_at "w"
    refine o_cat (by rw [lenA, lenA, l1, l5, sizeLine_eq]; omega) ?_
    exact ⟨⟨_, rfl, noPc_app (noPc_app (noPc_app hnp (by decide +kernel)) o1) (by decide +kernel), by rw [lenA, lenA, lenA, l1, l5]; omega⟩, Same.refl _⟩
  intro l2 H2 ys s2 n2 k2 e2 hy
  obtain ⟨ps, rfl, hps⟩ := strs_of (P := fun z => odd 200 z) fun y hm => by
    obtain ⟨j, hj⟩ := List.mem_iff_getElem?.mp hm
    exact hy j y hj
  rw [List.length_map, List.length_map] at e2
  walk_at "w"
  intro l3 H3 s3 n3 k3 _
  refine o_catL (s3 _ _ k2) k3 (by rw [List.length_map]; simp only [List.length_cons, List.length_nil]; omega) fun l4 H4 s4 n4 k4 _ => ?_
  walk_at "w"
  refine h l4 H4 (ps ++ [Str.ofString "", Str.ofString " ", Str.ofString "S", Str.ofString "S 0", Str.ofString "S 0 ", Str.ofString "S 0 = ", Str.ofString "S 0  = 'a", Str.ofString " S 0 =", Str.ofString "S = 0"]) (s1.trans (s2.trans (s3.trans s4))) (by rw [k4, List.map_append]; rfl) (by rw [List.length_append, e2, wl]; decide) fun z hz => ?_
  rcases List.mem_append.mp hz with q | q
  · exact hps z q
  · exact (by decide +kernel : ∀ z ∈ ([Str.ofString "", Str.ofString " ", Str.ofString "S", Str.ofString "S 0", Str.ofString "S 0 ", Str.ofString "S 0 = ", Str.ofString "S 0  = 'a", Str.ofString " S 0 =", Str.ofString "S = 0"] : List Str), odd 200 z) z q
theorem df_law_odd (T : Txt K mg cs) : Df P w K mg base "_law_odd" 1 ["_law_rule_here"] (sp1 (R_law_odd K)) := by
  obtain ⟨f, fd, hm, F, hb⟩ := T.f_law_odd.ex
  exact ⟨f, fd, hm, F.kp, hb, ok_law_odd F T⟩
/-- the text of a good rule: no percent sign, plain signs -/
theorem noPc_part {p : Str} (h : isPartS p = true) : ∀ c ∈ tl (showPart p), c ≠ 37 ∧ c < 128 := by
  have pp : ∀ c ∈ tl p, c ≠ 37 ∧ c < 128 := by
    rcases Bool.or_eq_true_iff.mp h with h | h
    · obtain ⟨c, e, hc⟩ := sign_is h
      rw [e]
      intro d hd
      simp only [okc, Bool.and_eq_true, decide_eq_true_eq, Bool.not_eq_true', decide_eq_false_iff_not] at hc
      simp only [List.mem_cons, List.not_mem_nil, or_false] at hd
      omega
    · intro c hc
      unfold isNameS at h
      simp only [Bool.and_eq_true, List.all_eq_true, decide_eq_true_eq] at h
      have := h.2 c hc
      omega
  unfold showPart
  split
  · intro c hc
    have e : tl ("'" : Str) = [39] := tl_q
    rw [e] at hc
    simp only [List.mem_cons, List.not_mem_nil, or_false] at hc
    omega
  · exact pp
theorem rule_signs {r : Rl} (g : GoodR r) : ∀ c ∈ tl (showRule r), c ≠ 37 ∧ c < 128 := by
  rw [wrote_all]
  unfold wroteL
  intro c hc
  obtain ⟨m, hm⟩ := Int.eq_ofNat_of_zero_le g.lo
  simp only [List.mem_append, List.mem_cons, List.not_mem_nil, or_false, List.mem_flatMap] at hc
  rcases hc with (((hc | hc) | hc) | hc) | ⟨p, hp, hc⟩
  · have h := g.head
    unfold isNameS at h
    simp only [Bool.and_eq_true, List.all_eq_true, decide_eq_true_eq] at h
    have := h.2 c hc
    omega
  · omega
  · rw [show tl (numW r.worth) = numL m by rw [hm]; exact tl_num m] at hc
    have := numL_digits m c hc
    omega
  · omega
  · rcases hc with hc | hc
    · omega
    · exact noPc_part (g.parts p (List.mem_of_mem_take hp)) c hc
theorem lower_noPc {z : Str} (h : ∀ c ∈ tl z, c ≠ 37 ∧ c < 128) : noPc (Txt.lower z) ∧ (Txt.lower z).length = z.length := by
  have e : tl (Txt.lower z) = (tl z).map PyProof.Rows.lo1 := by
    rw [PyProof.Rows.lower_ascii (x := z) fun c hc => (h c hc).2]
    show (z.cps.map PyProof.Rows.lo1).toList = _
    rw [Array.toList_map]
  refine ⟨fun q => ?_, by rw [len_tl, e, List.length_map, ← len_tl]⟩
  rw [e] at q
  obtain ⟨c, hc, hq⟩ := List.mem_map.mp q
  have := (h c hc).1
  unfold PyProof.Rows.lo1 at hq
  split at hq <;> omega
theorem repl_mem {y z : List Nat} : ∀ (l : List Nat) (s : Nat) (c : Nat), c ∈ PySem.StrLaws.replS y z s l → c ∈ z ∨ c ∈ l
  | [], s, c, h => by
    cases s <;> (unfold PySem.StrLaws.replS at h; cases h)
  | x :: r, 0, c, h => by
    unfold PySem.StrLaws.replS at h
    split at h
    · rcases List.mem_append.mp h with q | q
      · exact .inl q
      · exact (repl_mem r _ c q).imp id (List.mem_cons_of_mem _)
    · rcases List.mem_cons.mp h with q | q
      · exact .inr (by rw [q]; exact List.mem_cons_self ..)
      · exact (repl_mem r _ c q).imp id (List.mem_cons_of_mem _)
  | x :: r, s + 1, c, h => by
    unfold PySem.StrLaws.replS at h
    exact (repl_mem r s c h).imp id (List.mem_cons_of_mem _)
theorem noPc_repl {x : Str} (h : noPc x) : noPc (Txt.replace x (Str.ofString " = ") (Str.ofString " ")) := by
  intro q
  have e : tl (Txt.replace x (Str.ofString " = ") (Str.ofString " ")) = PySem.StrLaws.replL (tl (Str.ofString " = ")) (tl (Str.ofString " ")) (tl x) := PySem.StrLaws.replace_list (by decide +kernel)
  rw [e] at q
  rcases repl_mem _ _ _ q with q | q
  · exact absurd q (by decide +kernel)
  · exact h q
theorem wrote_all_len {r : Rl} (g : GoodR r) : (showRule r).length ≤ 140 := by
  have := wrote_len g r.parts.length g.few
  have := g.few
  rw [len_tl, wrote_all]
  omega
theorem ok_law {f : Addr} {fd : FuncData} (F : Fun K "law" "law" s_law f fd) (T : Txt K mg cs) : FnOk P w K mg base (L2.CX P w) 8 f fd ["_law_script"] (sp1 (R_law K)) := by
  refine F.okX sc_law (fun vs H Q E h => sp1_len h) (fun cdv A outer s H vs Q E hr h => ⟨_, PBw (X := X_law P w K mg base f cdv A outer s H E), ?_⟩)
  obtain ⟨a0, rfl, h⟩ := h
  have hr' : Room 7 (X_law P w K mg base f cdv A outer s H E).A := hr
  replace hr := hr'
  clear hr'
  obtain ⟨a, ns, rfl, hS, hlen, h⟩ := h
  walk_at "w"
  refine e_call (df_law_rule T) (hr.mono (by decide)) ?_
  walk_at "w"
  refine ⟨_, _, _, rfl, hS, rfl, by decide, fun r v H1 g s1 hv => ?_⟩
  walk_at "w"
  refine e_call (df_law_written T) (hr.mono (by decide)) ?_
  walk_at "w"
  refine ⟨r, hv, g, ?_⟩
  walk_at "w"
  have sg := rule_signs g
  have np : noPc (showRule r) := fun q => (sg 37 q).1 rfl
  have ln := wrote_all_len g
  have rg := read_show g
  refine s_for (j_list ?_)
  walk_at "w"
  refine n_lst (s1.seq hS) fun l2 H2 s2 n2 k2 _ => ?_
  rw [cutV_mid _ (by decide) (by decide)] at k2
  have ek : (List.take ((17 : Int).toNat - (9 : Int).toNat) (List.drop (9 : Int).toNat (ns.map V.int))) = ((ns.drop 9).take 8).map V.int := by rw [List.map_take, List.map_drop]; rfl
  rw [ek] at k2
  generalize (ns.drop 9).take 8 = cs' at *
  refine ⟨l2, rfl, ⟨_, SqL.of k2⟩, _, _, _, walk_list (xs := cs'.map V.int), fun i σ' H' => (∃ v1, σ' = [some (.ref a), some v, some (.str (showRule r)), v1, none, none]) ∧ Same H2 H', ⟨⟨_, rfl⟩, Same.refl _⟩, fun _ _ _ _ ⟨_, e⟩ => SqL.of (e _ _ k2), ?_, ?_⟩
  · rintro i x σ' H' H3 hi ⟨⟨v1, rfl⟩, s3⟩ ⟨rfl, hx⟩
    rw [List.getElem?_map] at hx
    obtain ⟨j, hj, rfl⟩ : ∃ j, cs'[i]? = some j ∧ V.int j = x := by
      cases e : cs'[i]? with
      | none => rw [e] at hx; cases hx
      | some p => rw [e] at hx; exact ⟨p, rfl, Option.some.inj hx⟩
    walk_at "w"
    refine e_call (df_law_right T) (hr.mono (by decide)) ?_
    refine a_cons ?_
    refine e_call (df_law_spoilt T) (hr.mono (by decide)) ?_
    walk_at "w"
    refine ⟨by omega, np, fun z1 hz1 hp1 => ?_⟩
    walk_at "w"
    refine ⟨by omega, hp1, fun H4 s4 => ?_⟩
    walk_at "w"
    refine e_call (df_law_right T) (hr.mono (by decide)) ?_
    refine a_cons ?_
    refine e_call (df_law_spoilt T) (hr.mono (by decide)) ?_
    refine a_cons ?_
    refine e_call (df_law_spoilt T) (hr.mono (by decide)) ?_
    walk_at "w"
    refine ⟨by omega, np, fun z2 hz2 hp2 => ?_⟩
    walk_at "w"
    refine ⟨by omega, hp2, fun z3 hz3 hp3 => ?_⟩
    walk_at "w"
    refine ⟨by omega, hp3, fun H5 s5 => ?_⟩
    walk_at "w"
    exact ⟨⟨_, rfl⟩, s3.trans (s4.trans s5)⟩
  · rintro σ' H' ⟨⟨v1, rfl⟩, s3⟩
    walk_at "w"
    refine s_for (j_list ?_)
    walk_at "w"
    refine e_call (df_law_odd T) (hr.mono (by decide)) ?_
    walk_at "w"
    refine ⟨r, hv.more (s2.trans s3), g, fun l4 H4 zs s4 k4 z100 hzs => ?_⟩
    refine e_lstN ?_
    refine a_binS ?_
    walk_at "w"
    have sp1 : (Str.ofString " ").length = 1 := by decide +kernel
    have nl1 : (Str.ofString "\n").length = 1 := by decide +kernel
    refine o_cat (by rw [sp1, sizeLine_eq]; omega) ?_
    refine aT_cons (eT_of ?_)
    walk_at "w"
    refine o_cat (by rw [sp1, sizeLine_eq]; omega) ?_
    refine aT_cons (eT_of ?_)
    walk_at "w"
    refine o_cat (by rw [nl1, sizeLine_eq]; omega) ?_
    refine aT_cons (eT_of (e_lower ?_))
    walk_at "w"
    refine ⟨by omega, ?_⟩
    refine aT_cons (eT_repl ?_)
    walk_at "w"
    refine ⟨by rw [sp1]; omega, ?_⟩
    refine aT_of (a_nil ?_)
    refine ⟨rfl, fun l5 H5 s5 n5 k5 _ => ?_⟩
    walk_at "w"
    obtain ⟨lo1, lo2⟩ := lower_noPc sg
    have rp := noPc_repl np
    have rl := TK.replace_len (showRule r) (Str.ofString " = ") (Str.ofString " ")
    obtain ⟨ys, ey, eyl, hys⟩ : ∃ ys : List Str, H5 l5 = some (.lst (ys.map V.str)) ∧ ys.length = 5 ∧ ∀ y ∈ ys, odd 1000 y := by
      refine ⟨[_, _, _, _, _], k5, rfl, fun y hy => ?_⟩
      simp only [List.mem_cons, List.not_mem_nil, or_false] at hy
      rcases hy with rfl | rfl | rfl | rfl | rfl
      · exact ⟨noPc_app np (by decide +kernel), by rw [lenA, sp1]; omega⟩
      · exact ⟨noPc_app (by decide +kernel) np, by rw [lenA, sp1]; omega⟩
      · exact ⟨noPc_app np (by decide +kernel), by rw [lenA, nl1]; omega⟩
      · exact ⟨lo1, by omega⟩
      · exact ⟨rp, by rw [sp1] at rl; omega⟩
    refine o_catL (s5 _ _ k4) ey (by simp only [List.length_map]; omega) fun l6 H6 s6 n6 k6 _ => ?_
    rw [← List.map_append] at k6
    have hall : ∀ y ∈ zs ++ ys, odd 1000 y := fun y hy => by
      rcases List.mem_append.mp hy with q | q
      · exact ⟨(hzs y q).1, Nat.le_trans (hzs y q).2 (by decide)⟩
      · exact hys y q
    refine ⟨l6, rfl, ⟨_, SqL.of k6⟩, _, _, _, walk_list (xs := (zs ++ ys).map V.str), fun i σ' H' => (∃ v1 v2, σ' = [some (.ref a), some v, some (.str (showRule r)), v1, v2, none]) ∧ Same H6 H', ⟨⟨_, _, rfl⟩, Same.refl _⟩, fun _ _ _ _ ⟨_, e⟩ => SqL.of (e _ _ k6), ?_, ?_⟩
    · rintro i x σ' H7 H8 hi ⟨⟨w1, w2, rfl⟩, s7⟩ ⟨rfl, hx⟩
      rw [List.getElem?_map] at hx
      obtain ⟨z, hz, rfl⟩ : ∃ z, (zs ++ ys)[i]? = some z ∧ V.str z = x := by
        cases e : (zs ++ ys)[i]? with
        | none => rw [e] at hx; cases hx
        | some p => rw [e] at hx; exact ⟨p, rfl, Option.some.inj hx⟩
      obtain ⟨o1, o2⟩ := hall z (List.mem_of_getElem? hz)
      walk_at "w"
      refine e_call (df_law_right T) (hr.mono (by decide)) ?_
      walk_at "w"
      refine ⟨by omega, o1, fun H9 s9 => ?_⟩
      walk_at "w"
      exact ⟨⟨_, _, rfl⟩, s7.trans s9⟩
    · rintro σ' H7 ⟨⟨w1, w2, rfl⟩, s7⟩
      have s17 := s2.trans (s3.trans (s4.trans (s5.trans (s6.trans s7))))
      walk_at "w"
      refine s_for (j_list ?_)
      walk_at "w"
      intro l8 H8 s8 n8 k8 _
      walk_at "w"
      intro l9 H9 s9 n9 k9 _
      walk_at "w"
      intro l10 H10 s10 n10 k10 _
      walk_at "w"
      intro d11 H11 s11 n11 k11 _
      walk_at "w"
      intro l12 H12 s12 n12 k12 _
      have s812 := s8.trans (s9.trans (s10.trans (s11.trans s12)))
      have s1to := s17.trans s812
      obtain ⟨xs, kx, hxs⟩ : ∃ xs : List V, H12 l12 = some (.lst xs) ∧ ∀ x ∈ xs, ∃ d, Th K H12 x d ∧ isK d "str" = false := by
        refine ⟨_, k12, fun x hx => ?_⟩
        simp only [List.mem_cons, List.not_mem_nil, or_false] at hx
        have z1 : (showRule r).length ≤ 1000000 := by omega
        rcases hx with rfl | rfl | rfl | rfl | rfl | rfl | rfl | rfl
        · exact ⟨_, .non, rfl⟩
        · exact ⟨_, .int _, rfl⟩
        · exact ⟨_, .bl _, rfl⟩
        · exact ⟨_, .lst (SqL.of ((s9.trans (s10.trans (s11.trans s12))) _ _ k8)) .nil, rfl⟩
        · exact ⟨_, .lst (SqL.of ((s10.trans (s11.trans s12)) _ _ k9)) (.cons (.str _ z1) .nil), rfl⟩
        · exact ⟨_, .tup (SqT.of ((s11.trans s12) _ _ k10)) (.cons (.str _ z1) .nil), rfl⟩
        · exact ⟨_, g.th (hv.more s1to), rfl⟩
        · exact ⟨_, .dct (s12 _ _ k11), rfl⟩
      refine ⟨l12, rfl, ⟨_, SqL.of kx⟩, _, _, _, walk_list (xs := xs), fun i σ' H' => (∃ v1 v2 v3, σ' = [some (.ref a), some v, some (.str (showRule r)), v1, v2, v3]) ∧ Same H12 H', ⟨⟨_, _, _, rfl⟩, Same.refl _⟩, fun _ _ _ _ ⟨_, e⟩ => SqL.of (e _ _ kx), ?_, ?_⟩
      · rintro i x σ' H13 H14 hi ⟨⟨w1, w2, w3, rfl⟩, s13⟩ ⟨rfl, hx⟩
        obtain ⟨d, hd, hb⟩ := hxs x (List.mem_of_getElem? hx)
        walk_at "w"
        refine e_call (df_law_refused T) (hr.mono (by decide)) ?_
        walk_at "w"
        refine ⟨.inr ⟨d, hd.more s13, hb⟩, fun H15 s15 => ?_⟩
        walk_at "w"
        exact ⟨⟨_, _, _, rfl⟩, s13.trans s15⟩
      · rintro σ' H13 ⟨⟨w1, w2, w3, rfl⟩, s13⟩
        walk_at "w"
        refine e_and ?_
        refine e_call (df_law_alike T) (hr.mono (by decide)) ?_
        refine a_cons ?_
        refine e_call (df_read_rule T) (hr.mono (by decide)) ?_
        walk_at "w"
        refine .inl ⟨_, rfl, by omega, fun r' hr' v5 H14 s14 hv5 => ?_, fun hn => absurd (hn.symm.trans rg) (by simp)⟩
        obtain rfl : r = r' := Option.some.inj (rg.symm.trans hr')
        walk_at "w"
        refine ⟨r, g, hv5, hv.more (s1to.trans (s13.trans s14)), ?_⟩
        walk_at "w"
        refine e_and ?_
        refine e_call (df_law_right T) (hr.mono (by decide)) ?_
        walk_at "w"
        refine ⟨by decide +kernel, by decide +kernel, fun H15 s15 => ?_⟩
        walk_at "w"
        refine e_call (df_law_right T) (hr.mono (by decide)) ?_
        walk_at "w"
        refine ⟨by decide +kernel, by decide +kernel, fun H16 s16 => ?_⟩
        exact h _

end
theorem all_mk {l : PySem.W.OpenLaw} {w : World} {K : PySem.W.Frag} {h : Heap} {mg : Str → Option Value} {fa C_ForestError C_NoGrammar C_NoText C_NoRow C_NoRule f_is_whole f_may_stand f_is_sign f_is_name f_are_parts f_is_rule f_read_figures f_read_part f_read_rule f_law_cell_at f_law_sign f_law_name f_law_part f_law_worth f_law_rule f_law_written f_law_alike f_law_figures f_law_is_name f_law_due f_law_spoilt f_law_odd f_law_refused f_law_right f_law : Addr} (X : K.In h) (G : h.Ns mainGlobals mg) (hfa : mg "law" = some (.ref fa))
    {t_MOST_PARTS : Tok}
    {t_MOST_WORTH : Tok}
    {t_FIGURES : Tok}
    {t_MOST_FIGURES : Tok}
    {od_is_whole an_is_whole : Option Addr} {sl_is_whole : Array (Option Value)} {oc_is_whole kV_is_whole dc_is_whole pm_is_whole cd_is_whole ct_is_whole : Value}
    {od_may_stand an_may_stand : Option Addr} {sl_may_stand : Array (Option Value)} {oc_may_stand kV_may_stand dc_may_stand pm_may_stand cd_may_stand ct_may_stand : Value}
    {od_is_sign an_is_sign : Option Addr} {sl_is_sign : Array (Option Value)} {oc_is_sign kV_is_sign dc_is_sign pm_is_sign cd_is_sign ct_is_sign : Value}
    {od_is_name an_is_name : Option Addr} {sl_is_name : Array (Option Value)} {oc_is_name kV_is_name dc_is_name pm_is_name cd_is_name ct_is_name : Value}
    {od_are_parts an_are_parts : Option Addr} {sl_are_parts : Array (Option Value)} {oc_are_parts kV_are_parts dc_are_parts pm_are_parts cd_are_parts ct_are_parts : Value}
    {od_is_rule an_is_rule : Option Addr} {sl_is_rule : Array (Option Value)} {oc_is_rule kV_is_rule dc_is_rule pm_is_rule cd_is_rule ct_is_rule : Value}
    {od_read_figures an_read_figures : Option Addr} {sl_read_figures : Array (Option Value)} {oc_read_figures kV_read_figures dc_read_figures pm_read_figures cd_read_figures ct_read_figures : Value}
    {od_read_part an_read_part : Option Addr} {sl_read_part : Array (Option Value)} {oc_read_part kV_read_part dc_read_part pm_read_part cd_read_part ct_read_part : Value}
    {od_read_rule an_read_rule : Option Addr} {sl_read_rule : Array (Option Value)} {oc_read_rule kV_read_rule dc_read_rule pm_read_rule cd_read_rule ct_read_rule : Value}
    {od_law_cell_at an_law_cell_at : Option Addr} {sl_law_cell_at : Array (Option Value)} {oc_law_cell_at kV_law_cell_at dc_law_cell_at pm_law_cell_at cd_law_cell_at ct_law_cell_at : Value}
    {od_law_sign an_law_sign : Option Addr} {sl_law_sign : Array (Option Value)} {oc_law_sign kV_law_sign dc_law_sign pm_law_sign cd_law_sign ct_law_sign : Value}
    {od_law_name an_law_name : Option Addr} {sl_law_name : Array (Option Value)} {oc_law_name kV_law_name dc_law_name pm_law_name cd_law_name ct_law_name : Value}
    {od_law_part an_law_part : Option Addr} {sl_law_part : Array (Option Value)} {oc_law_part kV_law_part dc_law_part pm_law_part cd_law_part ct_law_part : Value}
    {od_law_worth an_law_worth : Option Addr} {sl_law_worth : Array (Option Value)} {oc_law_worth kV_law_worth dc_law_worth pm_law_worth cd_law_worth ct_law_worth : Value}
    {od_law_rule an_law_rule : Option Addr} {sl_law_rule : Array (Option Value)} {oc_law_rule kV_law_rule dc_law_rule pm_law_rule cd_law_rule ct_law_rule : Value}
    {od_law_written an_law_written : Option Addr} {sl_law_written : Array (Option Value)} {oc_law_written kV_law_written dc_law_written pm_law_written cd_law_written ct_law_written : Value}
    {od_law_alike an_law_alike : Option Addr} {sl_law_alike : Array (Option Value)} {oc_law_alike kV_law_alike dc_law_alike pm_law_alike cd_law_alike ct_law_alike : Value}
    {od_law_figures an_law_figures : Option Addr} {sl_law_figures : Array (Option Value)} {oc_law_figures kV_law_figures dc_law_figures pm_law_figures cd_law_figures ct_law_figures : Value}
    {od_law_is_name an_law_is_name : Option Addr} {sl_law_is_name : Array (Option Value)} {oc_law_is_name kV_law_is_name dc_law_is_name pm_law_is_name cd_law_is_name ct_law_is_name : Value}
    {od_law_due an_law_due : Option Addr} {sl_law_due : Array (Option Value)} {oc_law_due kV_law_due dc_law_due pm_law_due cd_law_due ct_law_due : Value}
    {od_law_spoilt an_law_spoilt : Option Addr} {sl_law_spoilt : Array (Option Value)} {oc_law_spoilt kV_law_spoilt dc_law_spoilt pm_law_spoilt cd_law_spoilt ct_law_spoilt : Value}
    {od_law_odd an_law_odd : Option Addr} {sl_law_odd : Array (Option Value)} {oc_law_odd kV_law_odd dc_law_odd pm_law_odd cd_law_odd ct_law_odd : Value}
    {od_law_refused an_law_refused : Option Addr} {sl_law_refused : Array (Option Value)} {oc_law_refused kV_law_refused dc_law_refused pm_law_refused cd_law_refused ct_law_refused : Value}
    {od_law_right an_law_right : Option Addr} {sl_law_right : Array (Option Value)} {oc_law_right kV_law_right dc_law_right pm_law_right cd_law_right ct_law_right : Value}
    {od_law an_law : Option Addr} {sl_law : Array (Option Value)} {oc_law kV_law dc_law pm_law cd_law ct_law : Value}
    (b_ValueError : PySem.W.nsIn K mainGlobals "ValueError" = some none)
    (b_bool : PySem.W.nsIn K mainGlobals "bool" = some none)
    (b_int : PySem.W.nsIn K mainGlobals "int" = some none)
    (b_isinstance : PySem.W.nsIn K mainGlobals "isinstance" = some none)
    (b_len : PySem.W.nsIn K mainGlobals "len" = some none)
    (b_ord : PySem.W.nsIn K mainGlobals "ord" = some none)
    (b_range : PySem.W.nsIn K mainGlobals "range" = some none)
    (b_str : PySem.W.nsIn K mainGlobals "str" = some none)
    (b_tuple : PySem.W.nsIn K mainGlobals "tuple" = some none)
    (k_MOST_PARTS : PySem.W.nsIn K mainGlobals "MOST_PARTS" = some (some (.int (6) t_MOST_PARTS)))
    (k_MOST_WORTH : PySem.W.nsIn K mainGlobals "MOST_WORTH" = some (some (.int (1000000000000000000000000000000000000000000000000000000000000) t_MOST_WORTH)))
    (k_FIGURES : PySem.W.nsIn K mainGlobals "FIGURES" = some (some (.str ("0123456789") t_FIGURES)))
    (k_MOST_FIGURES : PySem.W.nsIn K mainGlobals "MOST_FIGURES" = some (some (.int (61) t_MOST_FIGURES)))
    (g_ForestError : PySem.W.nsIn K mainGlobals "ForestError" = some (some (.ref C_ForestError)))
    (ex_ForestError : PySem.W.excIn K C_ForestError [.type "ValueError", .type "Exception", .type "BaseException", .type "object"] "ValueError.__new__" = true)
    (kc_ForestError : PySem.W.keepIn K (.ref C_ForestError) = true)
    (bc_ForestError : PySem.W.subIn K (.ref C_ForestError) (.type "BaseException") = some true)
    (tc_ForestError : PySem.W.typeIn K (.ref C_ForestError) = some (.type "type"))
    (ic_ForestError : PySem.W.isClsIn K C_ForestError = true)
    (ga_ForestError : PySem.W.findIn K (.ref C_ForestError) "__getattribute__" = some (some (.builtin "BaseException.__getattribute__")))
    (gk_ForestError : PySem.W.findIn K (.ref C_ForestError) "__getattr__" = some none)
    (hd_ForestError : PySem.W.hasDictIn K C_ForestError = true)
    (ha_ForestError : PySem.W.findIn K (.ref C_ForestError) "__class__" = some (some (.builtin "object.__class__")))
    (hn_ForestError : PySem.W.specialIn K (.builtin "object.__class__") "__get__" = some (some (.builtin "getset_descriptor.__get__")))
    (ht_ForestError : PySem.W.takesIn K (.builtin "object.__class__") = some true)
    (hm_ForestError : PySem.W.mroIn K C_ForestError (.type "object") = some true)
    (ve_ForestError : PySem.W.subIn K (.ref C_ForestError) (.type "ValueError") = some true)
    (g_NoGrammar : PySem.W.nsIn K mainGlobals "NoGrammar" = some (some (.ref C_NoGrammar)))
    (ex_NoGrammar : PySem.W.excIn K C_NoGrammar [.type "ValueError", .type "Exception", .type "BaseException", .type "object"] "ValueError.__new__" = true)
    (kc_NoGrammar : PySem.W.keepIn K (.ref C_NoGrammar) = true)
    (bc_NoGrammar : PySem.W.subIn K (.ref C_NoGrammar) (.type "BaseException") = some true)
    (tc_NoGrammar : PySem.W.typeIn K (.ref C_NoGrammar) = some (.type "type"))
    (ic_NoGrammar : PySem.W.isClsIn K C_NoGrammar = true)
    (ga_NoGrammar : PySem.W.findIn K (.ref C_NoGrammar) "__getattribute__" = some (some (.builtin "BaseException.__getattribute__")))
    (gk_NoGrammar : PySem.W.findIn K (.ref C_NoGrammar) "__getattr__" = some none)
    (hd_NoGrammar : PySem.W.hasDictIn K C_NoGrammar = true)
    (ha_NoGrammar : PySem.W.findIn K (.ref C_NoGrammar) "__class__" = some (some (.builtin "object.__class__")))
    (hn_NoGrammar : PySem.W.specialIn K (.builtin "object.__class__") "__get__" = some (some (.builtin "getset_descriptor.__get__")))
    (ht_NoGrammar : PySem.W.takesIn K (.builtin "object.__class__") = some true)
    (hm_NoGrammar : PySem.W.mroIn K C_NoGrammar (.type "object") = some true)
    (ve_NoGrammar : PySem.W.subIn K (.ref C_NoGrammar) (.type "ValueError") = some true)
    (g_NoText : PySem.W.nsIn K mainGlobals "NoText" = some (some (.ref C_NoText)))
    (ex_NoText : PySem.W.excIn K C_NoText [.type "ValueError", .type "Exception", .type "BaseException", .type "object"] "ValueError.__new__" = true)
    (kc_NoText : PySem.W.keepIn K (.ref C_NoText) = true)
    (bc_NoText : PySem.W.subIn K (.ref C_NoText) (.type "BaseException") = some true)
    (tc_NoText : PySem.W.typeIn K (.ref C_NoText) = some (.type "type"))
    (ic_NoText : PySem.W.isClsIn K C_NoText = true)
    (ga_NoText : PySem.W.findIn K (.ref C_NoText) "__getattribute__" = some (some (.builtin "BaseException.__getattribute__")))
    (gk_NoText : PySem.W.findIn K (.ref C_NoText) "__getattr__" = some none)
    (hd_NoText : PySem.W.hasDictIn K C_NoText = true)
    (ha_NoText : PySem.W.findIn K (.ref C_NoText) "__class__" = some (some (.builtin "object.__class__")))
    (hn_NoText : PySem.W.specialIn K (.builtin "object.__class__") "__get__" = some (some (.builtin "getset_descriptor.__get__")))
    (ht_NoText : PySem.W.takesIn K (.builtin "object.__class__") = some true)
    (hm_NoText : PySem.W.mroIn K C_NoText (.type "object") = some true)
    (ve_NoText : PySem.W.subIn K (.ref C_NoText) (.type "ValueError") = some true)
    (g_NoRow : PySem.W.nsIn K mainGlobals "NoRow" = some (some (.ref C_NoRow)))
    (ex_NoRow : PySem.W.excIn K C_NoRow [.type "ValueError", .type "Exception", .type "BaseException", .type "object"] "ValueError.__new__" = true)
    (kc_NoRow : PySem.W.keepIn K (.ref C_NoRow) = true)
    (bc_NoRow : PySem.W.subIn K (.ref C_NoRow) (.type "BaseException") = some true)
    (tc_NoRow : PySem.W.typeIn K (.ref C_NoRow) = some (.type "type"))
    (ic_NoRow : PySem.W.isClsIn K C_NoRow = true)
    (ga_NoRow : PySem.W.findIn K (.ref C_NoRow) "__getattribute__" = some (some (.builtin "BaseException.__getattribute__")))
    (gk_NoRow : PySem.W.findIn K (.ref C_NoRow) "__getattr__" = some none)
    (hd_NoRow : PySem.W.hasDictIn K C_NoRow = true)
    (ha_NoRow : PySem.W.findIn K (.ref C_NoRow) "__class__" = some (some (.builtin "object.__class__")))
    (hn_NoRow : PySem.W.specialIn K (.builtin "object.__class__") "__get__" = some (some (.builtin "getset_descriptor.__get__")))
    (ht_NoRow : PySem.W.takesIn K (.builtin "object.__class__") = some true)
    (hm_NoRow : PySem.W.mroIn K C_NoRow (.type "object") = some true)
    (ve_NoRow : PySem.W.subIn K (.ref C_NoRow) (.type "ValueError") = some true)
    (g_NoRule : PySem.W.nsIn K mainGlobals "NoRule" = some (some (.ref C_NoRule)))
    (ex_NoRule : PySem.W.excIn K C_NoRule [.type "ValueError", .type "Exception", .type "BaseException", .type "object"] "ValueError.__new__" = true)
    (kc_NoRule : PySem.W.keepIn K (.ref C_NoRule) = true)
    (bc_NoRule : PySem.W.subIn K (.ref C_NoRule) (.type "BaseException") = some true)
    (tc_NoRule : PySem.W.typeIn K (.ref C_NoRule) = some (.type "type"))
    (ic_NoRule : PySem.W.isClsIn K C_NoRule = true)
    (ga_NoRule : PySem.W.findIn K (.ref C_NoRule) "__getattribute__" = some (some (.builtin "BaseException.__getattribute__")))
    (gk_NoRule : PySem.W.findIn K (.ref C_NoRule) "__getattr__" = some none)
    (hd_NoRule : PySem.W.hasDictIn K C_NoRule = true)
    (ha_NoRule : PySem.W.findIn K (.ref C_NoRule) "__class__" = some (some (.builtin "object.__class__")))
    (hn_NoRule : PySem.W.specialIn K (.builtin "object.__class__") "__get__" = some (some (.builtin "getset_descriptor.__get__")))
    (ht_NoRule : PySem.W.takesIn K (.builtin "object.__class__") = some true)
    (hm_NoRule : PySem.W.mroIn K C_NoRule (.type "object") = some true)
    (ve_NoRule : PySem.W.subIn K (.ref C_NoRule) (.type "ValueError") = some true)
    (su_NoRule_ForestError : PySem.W.subIn K (.ref C_NoRule) (.ref C_ForestError) = some true)
    (su_NoRule_NoGrammar : PySem.W.subIn K (.ref C_NoRule) (.ref C_NoGrammar) = some false)
    (su_NoRule_NoText : PySem.W.subIn K (.ref C_NoRule) (.ref C_NoText) = some false)
    (su_NoRule_NoRow : PySem.W.subIn K (.ref C_NoRule) (.ref C_NoRow) = some false)
    (su_NoRule_NoRule : PySem.W.subIn K (.ref C_NoRule) (.ref C_NoRule) = some true)
    (a_is_whole : PySem.W.nsIn K mainGlobals "is_whole" = some (some (.ref f_is_whole)))
    (l_is_whole : K.lookup f_is_whole = some ⟨oc_is_whole, od_is_whole, .func (PySem.W.fnOf "is_whole" "is_whole" (defArgs s_is_whole) (defBody s_is_whole) (defScope s_is_whole) .none kV_is_whole dc_is_whole pm_is_whole an_is_whole cd_is_whole ct_is_whole), sl_is_whole⟩)
    (e_is_whole : PySem.W.codeIn K cd_is_whole "is_whole" = true)
    (p_is_whole : PySem.W.keepIn K (.ref f_is_whole) = true)
    (a_may_stand : PySem.W.nsIn K mainGlobals "may_stand" = some (some (.ref f_may_stand)))
    (l_may_stand : K.lookup f_may_stand = some ⟨oc_may_stand, od_may_stand, .func (PySem.W.fnOf "may_stand" "may_stand" (defArgs s_may_stand) (defBody s_may_stand) (defScope s_may_stand) .none kV_may_stand dc_may_stand pm_may_stand an_may_stand cd_may_stand ct_may_stand), sl_may_stand⟩)
    (e_may_stand : PySem.W.codeIn K cd_may_stand "may_stand" = true)
    (p_may_stand : PySem.W.keepIn K (.ref f_may_stand) = true)
    (a_is_sign : PySem.W.nsIn K mainGlobals "is_sign" = some (some (.ref f_is_sign)))
    (l_is_sign : K.lookup f_is_sign = some ⟨oc_is_sign, od_is_sign, .func (PySem.W.fnOf "is_sign" "is_sign" (defArgs s_is_sign) (defBody s_is_sign) (defScope s_is_sign) .none kV_is_sign dc_is_sign pm_is_sign an_is_sign cd_is_sign ct_is_sign), sl_is_sign⟩)
    (e_is_sign : PySem.W.codeIn K cd_is_sign "is_sign" = true)
    (p_is_sign : PySem.W.keepIn K (.ref f_is_sign) = true)
    (a_is_name : PySem.W.nsIn K mainGlobals "is_name" = some (some (.ref f_is_name)))
    (l_is_name : K.lookup f_is_name = some ⟨oc_is_name, od_is_name, .func (PySem.W.fnOf "is_name" "is_name" (defArgs s_is_name) (defBody s_is_name) (defScope s_is_name) .none kV_is_name dc_is_name pm_is_name an_is_name cd_is_name ct_is_name), sl_is_name⟩)
    (e_is_name : PySem.W.codeIn K cd_is_name "is_name" = true)
    (p_is_name : PySem.W.keepIn K (.ref f_is_name) = true)
    (a_are_parts : PySem.W.nsIn K mainGlobals "are_parts" = some (some (.ref f_are_parts)))
    (l_are_parts : K.lookup f_are_parts = some ⟨oc_are_parts, od_are_parts, .func (PySem.W.fnOf "are_parts" "are_parts" (defArgs s_are_parts) (defBody s_are_parts) (defScope s_are_parts) .none kV_are_parts dc_are_parts pm_are_parts an_are_parts cd_are_parts ct_are_parts), sl_are_parts⟩)
    (e_are_parts : PySem.W.codeIn K cd_are_parts "are_parts" = true)
    (p_are_parts : PySem.W.keepIn K (.ref f_are_parts) = true)
    (a_is_rule : PySem.W.nsIn K mainGlobals "is_rule" = some (some (.ref f_is_rule)))
    (l_is_rule : K.lookup f_is_rule = some ⟨oc_is_rule, od_is_rule, .func (PySem.W.fnOf "is_rule" "is_rule" (defArgs s_is_rule) (defBody s_is_rule) (defScope s_is_rule) .none kV_is_rule dc_is_rule pm_is_rule an_is_rule cd_is_rule ct_is_rule), sl_is_rule⟩)
    (e_is_rule : PySem.W.codeIn K cd_is_rule "is_rule" = true)
    (p_is_rule : PySem.W.keepIn K (.ref f_is_rule) = true)
    (a_read_figures : PySem.W.nsIn K mainGlobals "read_figures" = some (some (.ref f_read_figures)))
    (l_read_figures : K.lookup f_read_figures = some ⟨oc_read_figures, od_read_figures, .func (PySem.W.fnOf "read_figures" "read_figures" (defArgs s_read_figures) (defBody s_read_figures) (defScope s_read_figures) .none kV_read_figures dc_read_figures pm_read_figures an_read_figures cd_read_figures ct_read_figures), sl_read_figures⟩)
    (e_read_figures : PySem.W.codeIn K cd_read_figures "read_figures" = true)
    (p_read_figures : PySem.W.keepIn K (.ref f_read_figures) = true)
    (a_read_part : PySem.W.nsIn K mainGlobals "read_part" = some (some (.ref f_read_part)))
    (l_read_part : K.lookup f_read_part = some ⟨oc_read_part, od_read_part, .func (PySem.W.fnOf "read_part" "read_part" (defArgs s_read_part) (defBody s_read_part) (defScope s_read_part) .none kV_read_part dc_read_part pm_read_part an_read_part cd_read_part ct_read_part), sl_read_part⟩)
    (e_read_part : PySem.W.codeIn K cd_read_part "read_part" = true)
    (p_read_part : PySem.W.keepIn K (.ref f_read_part) = true)
    (a_read_rule : PySem.W.nsIn K mainGlobals "read_rule" = some (some (.ref f_read_rule)))
    (l_read_rule : K.lookup f_read_rule = some ⟨oc_read_rule, od_read_rule, .func (PySem.W.fnOf "read_rule" "read_rule" (defArgs s_read_rule) (defBody s_read_rule) (defScope s_read_rule) .none kV_read_rule dc_read_rule pm_read_rule an_read_rule cd_read_rule ct_read_rule), sl_read_rule⟩)
    (e_read_rule : PySem.W.codeIn K cd_read_rule "read_rule" = true)
    (p_read_rule : PySem.W.keepIn K (.ref f_read_rule) = true)
    (a_law_cell_at : PySem.W.nsIn K mainGlobals "_law_cell_at" = some (some (.ref f_law_cell_at)))
    (l_law_cell_at : K.lookup f_law_cell_at = some ⟨oc_law_cell_at, od_law_cell_at, .func (PySem.W.fnOf "_law_cell_at" "_law_cell_at" (defArgs s_law_cell_at) (defBody s_law_cell_at) (defScope s_law_cell_at) .none kV_law_cell_at dc_law_cell_at pm_law_cell_at an_law_cell_at cd_law_cell_at ct_law_cell_at), sl_law_cell_at⟩)
    (e_law_cell_at : PySem.W.codeIn K cd_law_cell_at "_law_cell_at" = true)
    (p_law_cell_at : PySem.W.keepIn K (.ref f_law_cell_at) = true)
    (a_law_sign : PySem.W.nsIn K mainGlobals "_law_sign" = some (some (.ref f_law_sign)))
    (l_law_sign : K.lookup f_law_sign = some ⟨oc_law_sign, od_law_sign, .func (PySem.W.fnOf "_law_sign" "_law_sign" (defArgs s_law_sign) (defBody s_law_sign) (defScope s_law_sign) .none kV_law_sign dc_law_sign pm_law_sign an_law_sign cd_law_sign ct_law_sign), sl_law_sign⟩)
    (e_law_sign : PySem.W.codeIn K cd_law_sign "_law_sign" = true)
    (p_law_sign : PySem.W.keepIn K (.ref f_law_sign) = true)
    (a_law_name : PySem.W.nsIn K mainGlobals "_law_name" = some (some (.ref f_law_name)))
    (l_law_name : K.lookup f_law_name = some ⟨oc_law_name, od_law_name, .func (PySem.W.fnOf "_law_name" "_law_name" (defArgs s_law_name) (defBody s_law_name) (defScope s_law_name) .none kV_law_name dc_law_name pm_law_name an_law_name cd_law_name ct_law_name), sl_law_name⟩)
    (e_law_name : PySem.W.codeIn K cd_law_name "_law_name" = true)
    (p_law_name : PySem.W.keepIn K (.ref f_law_name) = true)
    (a_law_part : PySem.W.nsIn K mainGlobals "_law_part" = some (some (.ref f_law_part)))
    (l_law_part : K.lookup f_law_part = some ⟨oc_law_part, od_law_part, .func (PySem.W.fnOf "_law_part" "_law_part" (defArgs s_law_part) (defBody s_law_part) (defScope s_law_part) .none kV_law_part dc_law_part pm_law_part an_law_part cd_law_part ct_law_part), sl_law_part⟩)
    (e_law_part : PySem.W.codeIn K cd_law_part "_law_part" = true)
    (p_law_part : PySem.W.keepIn K (.ref f_law_part) = true)
    (a_law_worth : PySem.W.nsIn K mainGlobals "_law_worth" = some (some (.ref f_law_worth)))
    (l_law_worth : K.lookup f_law_worth = some ⟨oc_law_worth, od_law_worth, .func (PySem.W.fnOf "_law_worth" "_law_worth" (defArgs s_law_worth) (defBody s_law_worth) (defScope s_law_worth) .none kV_law_worth dc_law_worth pm_law_worth an_law_worth cd_law_worth ct_law_worth), sl_law_worth⟩)
    (e_law_worth : PySem.W.codeIn K cd_law_worth "_law_worth" = true)
    (p_law_worth : PySem.W.keepIn K (.ref f_law_worth) = true)
    (a_law_rule : PySem.W.nsIn K mainGlobals "_law_rule" = some (some (.ref f_law_rule)))
    (l_law_rule : K.lookup f_law_rule = some ⟨oc_law_rule, od_law_rule, .func (PySem.W.fnOf "_law_rule" "_law_rule" (defArgs s_law_rule) (defBody s_law_rule) (defScope s_law_rule) .none kV_law_rule dc_law_rule pm_law_rule an_law_rule cd_law_rule ct_law_rule), sl_law_rule⟩)
    (e_law_rule : PySem.W.codeIn K cd_law_rule "_law_rule" = true)
    (p_law_rule : PySem.W.keepIn K (.ref f_law_rule) = true)
    (a_law_written : PySem.W.nsIn K mainGlobals "_law_written" = some (some (.ref f_law_written)))
    (l_law_written : K.lookup f_law_written = some ⟨oc_law_written, od_law_written, .func (PySem.W.fnOf "_law_written" "_law_written" (defArgs s_law_written) (defBody s_law_written) (defScope s_law_written) .none kV_law_written dc_law_written pm_law_written an_law_written cd_law_written ct_law_written), sl_law_written⟩)
    (e_law_written : PySem.W.codeIn K cd_law_written "_law_written" = true)
    (p_law_written : PySem.W.keepIn K (.ref f_law_written) = true)
    (a_law_alike : PySem.W.nsIn K mainGlobals "_law_alike" = some (some (.ref f_law_alike)))
    (l_law_alike : K.lookup f_law_alike = some ⟨oc_law_alike, od_law_alike, .func (PySem.W.fnOf "_law_alike" "_law_alike" (defArgs s_law_alike) (defBody s_law_alike) (defScope s_law_alike) .none kV_law_alike dc_law_alike pm_law_alike an_law_alike cd_law_alike ct_law_alike), sl_law_alike⟩)
    (e_law_alike : PySem.W.codeIn K cd_law_alike "_law_alike" = true)
    (p_law_alike : PySem.W.keepIn K (.ref f_law_alike) = true)
    (a_law_figures : PySem.W.nsIn K mainGlobals "_law_figures" = some (some (.ref f_law_figures)))
    (l_law_figures : K.lookup f_law_figures = some ⟨oc_law_figures, od_law_figures, .func (PySem.W.fnOf "_law_figures" "_law_figures" (defArgs s_law_figures) (defBody s_law_figures) (defScope s_law_figures) .none kV_law_figures dc_law_figures pm_law_figures an_law_figures cd_law_figures ct_law_figures), sl_law_figures⟩)
    (e_law_figures : PySem.W.codeIn K cd_law_figures "_law_figures" = true)
    (p_law_figures : PySem.W.keepIn K (.ref f_law_figures) = true)
    (a_law_is_name : PySem.W.nsIn K mainGlobals "_law_is_name" = some (some (.ref f_law_is_name)))
    (l_law_is_name : K.lookup f_law_is_name = some ⟨oc_law_is_name, od_law_is_name, .func (PySem.W.fnOf "_law_is_name" "_law_is_name" (defArgs s_law_is_name) (defBody s_law_is_name) (defScope s_law_is_name) .none kV_law_is_name dc_law_is_name pm_law_is_name an_law_is_name cd_law_is_name ct_law_is_name), sl_law_is_name⟩)
    (e_law_is_name : PySem.W.codeIn K cd_law_is_name "_law_is_name" = true)
    (p_law_is_name : PySem.W.keepIn K (.ref f_law_is_name) = true)
    (a_law_due : PySem.W.nsIn K mainGlobals "_law_due" = some (some (.ref f_law_due)))
    (l_law_due : K.lookup f_law_due = some ⟨oc_law_due, od_law_due, .func (PySem.W.fnOf "_law_due" "_law_due" (defArgs s_law_due) (defBody s_law_due) (defScope s_law_due) .none kV_law_due dc_law_due pm_law_due an_law_due cd_law_due ct_law_due), sl_law_due⟩)
    (e_law_due : PySem.W.codeIn K cd_law_due "_law_due" = true)
    (p_law_due : PySem.W.keepIn K (.ref f_law_due) = true)
    (a_law_spoilt : PySem.W.nsIn K mainGlobals "_law_spoilt" = some (some (.ref f_law_spoilt)))
    (l_law_spoilt : K.lookup f_law_spoilt = some ⟨oc_law_spoilt, od_law_spoilt, .func (PySem.W.fnOf "_law_spoilt" "_law_spoilt" (defArgs s_law_spoilt) (defBody s_law_spoilt) (defScope s_law_spoilt) .none kV_law_spoilt dc_law_spoilt pm_law_spoilt an_law_spoilt cd_law_spoilt ct_law_spoilt), sl_law_spoilt⟩)
    (e_law_spoilt : PySem.W.codeIn K cd_law_spoilt "_law_spoilt" = true)
    (p_law_spoilt : PySem.W.keepIn K (.ref f_law_spoilt) = true)
    (a_law_odd : PySem.W.nsIn K mainGlobals "_law_odd" = some (some (.ref f_law_odd)))
    (l_law_odd : K.lookup f_law_odd = some ⟨oc_law_odd, od_law_odd, .func (PySem.W.fnOf "_law_odd" "_law_odd" (defArgs s_law_odd) (defBody s_law_odd) (defScope s_law_odd) .none kV_law_odd dc_law_odd pm_law_odd an_law_odd cd_law_odd ct_law_odd), sl_law_odd⟩)
    (e_law_odd : PySem.W.codeIn K cd_law_odd "_law_odd" = true)
    (p_law_odd : PySem.W.keepIn K (.ref f_law_odd) = true)
    (a_law_refused : PySem.W.nsIn K mainGlobals "_law_refused" = some (some (.ref f_law_refused)))
    (l_law_refused : K.lookup f_law_refused = some ⟨oc_law_refused, od_law_refused, .func (PySem.W.fnOf "_law_refused" "_law_refused" (defArgs s_law_refused) (defBody s_law_refused) (defScope s_law_refused) .none kV_law_refused dc_law_refused pm_law_refused an_law_refused cd_law_refused ct_law_refused), sl_law_refused⟩)
    (e_law_refused : PySem.W.codeIn K cd_law_refused "_law_refused" = true)
    (p_law_refused : PySem.W.keepIn K (.ref f_law_refused) = true)
    (a_law_right : PySem.W.nsIn K mainGlobals "_law_right" = some (some (.ref f_law_right)))
    (l_law_right : K.lookup f_law_right = some ⟨oc_law_right, od_law_right, .func (PySem.W.fnOf "_law_right" "_law_right" (defArgs s_law_right) (defBody s_law_right) (defScope s_law_right) .none kV_law_right dc_law_right pm_law_right an_law_right cd_law_right ct_law_right), sl_law_right⟩)
    (e_law_right : PySem.W.codeIn K cd_law_right "_law_right" = true)
    (p_law_right : PySem.W.keepIn K (.ref f_law_right) = true)
    (a_law : PySem.W.nsIn K mainGlobals "law" = some (some (.ref f_law)))
    (l_law : K.lookup f_law = some ⟨oc_law, od_law, .func (PySem.W.fnOf "law" "law" (defArgs s_law) (defBody s_law) (defScope s_law) .none kV_law dc_law pm_law an_law cd_law ct_law), sl_law⟩)
    (e_law : PySem.W.codeIn K cd_law "law" = true)
    (p_law : PySem.W.keepIn K (.ref f_law) = true)
    : ∃ fd : FuncData, (∀ (s : Shared) (v : Value), BindsTo s fd ⟨[v], []⟩ [("_law_script", v)]) ∧ ∀ base : Heap, K.In base → base.Ns mainGlobals mg → FnOk l.prog w K mg base (L2.CX l.prog w) 8 fa fd ["_law_script"] (sp1 (R_law K)) := by
  have e := hfa.symm.trans (PySem.W.mg_of X G a_law)
  cases e
  have T : Txt K mg ⟨0, C_ForestError, C_NoGrammar, C_NoText, C_NoRow, C_NoRule⟩ := {
    b_ValueError := ⟨PySem.W.mg_none_of X G b_ValueError⟩,
    b_bool := ⟨PySem.W.mg_none_of X G b_bool⟩,
    b_int := ⟨PySem.W.mg_none_of X G b_int⟩,
    b_isinstance := ⟨PySem.W.mg_none_of X G b_isinstance⟩,
    b_len := ⟨PySem.W.mg_none_of X G b_len⟩,
    b_ord := ⟨PySem.W.mg_none_of X G b_ord⟩,
    b_range := ⟨PySem.W.mg_none_of X G b_range⟩,
    b_str := ⟨PySem.W.mg_none_of X G b_str⟩,
    b_tuple := ⟨PySem.W.mg_none_of X G b_tuple⟩,
    k_MOST_PARTS := ⟨_, PySem.W.mg_of X G k_MOST_PARTS⟩,
    k_MOST_WORTH := ⟨_, PySem.W.mg_of X G k_MOST_WORTH⟩,
    k_FIGURES := ⟨_, PySem.W.mg_of X G k_FIGURES⟩,
    k_MOST_FIGURES := ⟨_, PySem.W.mg_of X G k_MOST_FIGURES⟩,
    x_ForestError := ⟨PySem.W.mg_of X G g_ForestError, ex_ForestError, kc_ForestError, bc_ForestError, tc_ForestError, ic_ForestError, ga_ForestError, gk_ForestError, hd_ForestError, ha_ForestError, hn_ForestError, ht_ForestError, hm_ForestError, ve_ForestError⟩,
    x_NoGrammar := ⟨PySem.W.mg_of X G g_NoGrammar, ex_NoGrammar, kc_NoGrammar, bc_NoGrammar, tc_NoGrammar, ic_NoGrammar, ga_NoGrammar, gk_NoGrammar, hd_NoGrammar, ha_NoGrammar, hn_NoGrammar, ht_NoGrammar, hm_NoGrammar, ve_NoGrammar⟩,
    x_NoText := ⟨PySem.W.mg_of X G g_NoText, ex_NoText, kc_NoText, bc_NoText, tc_NoText, ic_NoText, ga_NoText, gk_NoText, hd_NoText, ha_NoText, hn_NoText, ht_NoText, hm_NoText, ve_NoText⟩,
    x_NoRow := ⟨PySem.W.mg_of X G g_NoRow, ex_NoRow, kc_NoRow, bc_NoRow, tc_NoRow, ic_NoRow, ga_NoRow, gk_NoRow, hd_NoRow, ha_NoRow, hn_NoRow, ht_NoRow, hm_NoRow, ve_NoRow⟩,
    x_NoRule := ⟨PySem.W.mg_of X G g_NoRule, ex_NoRule, kc_NoRule, bc_NoRule, tc_NoRule, ic_NoRule, ga_NoRule, gk_NoRule, hd_NoRule, ha_NoRule, hn_NoRule, ht_NoRule, hm_NoRule, ve_NoRule⟩,
    s_NoRule_ForestError := su_NoRule_ForestError,
    s_NoRule_NoGrammar := su_NoRule_NoGrammar,
    s_NoRule_NoText := su_NoRule_NoText,
    s_NoRule_NoRow := su_NoRule_NoRow,
    s_NoRule_NoRule := su_NoRule_NoRule,
    f_is_whole := ⟨f_is_whole, _, PySem.W.mg_of X G a_is_whole, (fun_mk (st := s_is_whole) l_is_whole e_is_whole p_is_whole), ((fun_mk (st := s_is_whole) l_is_whole e_is_whole p_is_whole).binds (ps := ["thing"]) fun _ _ _ _ _ _ us hl => match us, hl with | [_], _ => rfl)⟩,
    f_may_stand := ⟨f_may_stand, _, PySem.W.mg_of X G a_may_stand, (fun_mk (st := s_may_stand) l_may_stand e_may_stand p_may_stand), ((fun_mk (st := s_may_stand) l_may_stand e_may_stand p_may_stand).binds (ps := ["sign"]) fun _ _ _ _ _ _ us hl => match us, hl with | [_], _ => rfl)⟩,
    f_is_sign := ⟨f_is_sign, _, PySem.W.mg_of X G a_is_sign, (fun_mk (st := s_is_sign) l_is_sign e_is_sign p_is_sign), ((fun_mk (st := s_is_sign) l_is_sign e_is_sign p_is_sign).binds (ps := ["thing"]) fun _ _ _ _ _ _ us hl => match us, hl with | [_], _ => rfl)⟩,
    f_is_name := ⟨f_is_name, _, PySem.W.mg_of X G a_is_name, (fun_mk (st := s_is_name) l_is_name e_is_name p_is_name), ((fun_mk (st := s_is_name) l_is_name e_is_name p_is_name).binds (ps := ["thing"]) fun _ _ _ _ _ _ us hl => match us, hl with | [_], _ => rfl)⟩,
    f_are_parts := ⟨f_are_parts, _, PySem.W.mg_of X G a_are_parts, (fun_mk (st := s_are_parts) l_are_parts e_are_parts p_are_parts), ((fun_mk (st := s_are_parts) l_are_parts e_are_parts p_are_parts).binds (ps := ["thing"]) fun _ _ _ _ _ _ us hl => match us, hl with | [_], _ => rfl)⟩,
    f_is_rule := ⟨f_is_rule, _, PySem.W.mg_of X G a_is_rule, (fun_mk (st := s_is_rule) l_is_rule e_is_rule p_is_rule), ((fun_mk (st := s_is_rule) l_is_rule e_is_rule p_is_rule).binds (ps := ["thing"]) fun _ _ _ _ _ _ us hl => match us, hl with | [_], _ => rfl)⟩,
    f_read_figures := ⟨f_read_figures, _, PySem.W.mg_of X G a_read_figures, (fun_mk (st := s_read_figures) l_read_figures e_read_figures p_read_figures), ((fun_mk (st := s_read_figures) l_read_figures e_read_figures p_read_figures).binds (ps := ["word"]) fun _ _ _ _ _ _ us hl => match us, hl with | [_], _ => rfl)⟩,
    f_read_part := ⟨f_read_part, _, PySem.W.mg_of X G a_read_part, (fun_mk (st := s_read_part) l_read_part e_read_part p_read_part), ((fun_mk (st := s_read_part) l_read_part e_read_part p_read_part).binds (ps := ["word"]) fun _ _ _ _ _ _ us hl => match us, hl with | [_], _ => rfl)⟩,
    f_read_rule := ⟨f_read_rule, _, PySem.W.mg_of X G a_read_rule, (fun_mk (st := s_read_rule) l_read_rule e_read_rule p_read_rule), ((fun_mk (st := s_read_rule) l_read_rule e_read_rule p_read_rule).binds (ps := ["text"]) fun _ _ _ _ _ _ us hl => match us, hl with | [_], _ => rfl)⟩,
    f_law_cell_at := ⟨f_law_cell_at, _, PySem.W.mg_of X G a_law_cell_at, (fun_mk (st := s_law_cell_at) l_law_cell_at e_law_cell_at p_law_cell_at), ((fun_mk (st := s_law_cell_at) l_law_cell_at e_law_cell_at p_law_cell_at).binds (ps := ["_law_script", "_law_k"]) fun _ _ _ _ _ _ us hl => match us, hl with | [_, _], _ => rfl)⟩,
    f_law_sign := ⟨f_law_sign, _, PySem.W.mg_of X G a_law_sign, (fun_mk (st := s_law_sign) l_law_sign e_law_sign p_law_sign), ((fun_mk (st := s_law_sign) l_law_sign e_law_sign p_law_sign).binds (ps := ["_law_cell"]) fun _ _ _ _ _ _ us hl => match us, hl with | [_], _ => rfl)⟩,
    f_law_name := ⟨f_law_name, _, PySem.W.mg_of X G a_law_name, (fun_mk (st := s_law_name) l_law_name e_law_name p_law_name), ((fun_mk (st := s_law_name) l_law_name e_law_name p_law_name).binds (ps := ["_law_cell"]) fun _ _ _ _ _ _ us hl => match us, hl with | [_], _ => rfl)⟩,
    f_law_part := ⟨f_law_part, _, PySem.W.mg_of X G a_law_part, (fun_mk (st := s_law_part) l_law_part e_law_part p_law_part), ((fun_mk (st := s_law_part) l_law_part e_law_part p_law_part).binds (ps := ["_law_cell"]) fun _ _ _ _ _ _ us hl => match us, hl with | [_], _ => rfl)⟩,
    f_law_worth := ⟨f_law_worth, _, PySem.W.mg_of X G a_law_worth, (fun_mk (st := s_law_worth) l_law_worth e_law_worth p_law_worth), ((fun_mk (st := s_law_worth) l_law_worth e_law_worth p_law_worth).binds (ps := ["_law_cell"]) fun _ _ _ _ _ _ us hl => match us, hl with | [_], _ => rfl)⟩,
    f_law_rule := ⟨f_law_rule, _, PySem.W.mg_of X G a_law_rule, (fun_mk (st := s_law_rule) l_law_rule e_law_rule p_law_rule), ((fun_mk (st := s_law_rule) l_law_rule e_law_rule p_law_rule).binds (ps := ["_law_script", "_law_at"]) fun _ _ _ _ _ _ us hl => match us, hl with | [_, _], _ => rfl)⟩,
    f_law_written := ⟨f_law_written, _, PySem.W.mg_of X G a_law_written, (fun_mk (st := s_law_written) l_law_written e_law_written p_law_written), ((fun_mk (st := s_law_written) l_law_written e_law_written p_law_written).binds (ps := ["_law_rule_here"]) fun _ _ _ _ _ _ us hl => match us, hl with | [_], _ => rfl)⟩,
    f_law_alike := ⟨f_law_alike, _, PySem.W.mg_of X G a_law_alike, (fun_mk (st := s_law_alike) l_law_alike e_law_alike p_law_alike), ((fun_mk (st := s_law_alike) l_law_alike e_law_alike p_law_alike).binds (ps := ["_law_found", "_law_due_here"]) fun _ _ _ _ _ _ us hl => match us, hl with | [_, _], _ => rfl)⟩,
    f_law_figures := ⟨f_law_figures, _, PySem.W.mg_of X G a_law_figures, (fun_mk (st := s_law_figures) l_law_figures e_law_figures p_law_figures), ((fun_mk (st := s_law_figures) l_law_figures e_law_figures p_law_figures).binds (ps := ["_law_word"]) fun _ _ _ _ _ _ us hl => match us, hl with | [_], _ => rfl)⟩,
    f_law_is_name := ⟨f_law_is_name, _, PySem.W.mg_of X G a_law_is_name, (fun_mk (st := s_law_is_name) l_law_is_name e_law_is_name p_law_is_name), ((fun_mk (st := s_law_is_name) l_law_is_name e_law_is_name p_law_is_name).binds (ps := ["_law_word"]) fun _ _ _ _ _ _ us hl => match us, hl with | [_], _ => rfl)⟩,
    f_law_due := ⟨f_law_due, _, PySem.W.mg_of X G a_law_due, (fun_mk (st := s_law_due) l_law_due e_law_due p_law_due), ((fun_mk (st := s_law_due) l_law_due e_law_due p_law_due).binds (ps := ["_law_text"]) fun _ _ _ _ _ _ us hl => match us, hl with | [_], _ => rfl)⟩,
    f_law_spoilt := ⟨f_law_spoilt, _, PySem.W.mg_of X G a_law_spoilt, (fun_mk (st := s_law_spoilt) l_law_spoilt e_law_spoilt p_law_spoilt), ((fun_mk (st := s_law_spoilt) l_law_spoilt e_law_spoilt p_law_spoilt).binds (ps := ["_law_text", "_law_cell"]) fun _ _ _ _ _ _ us hl => match us, hl with | [_, _], _ => rfl)⟩,
    f_law_odd := ⟨f_law_odd, _, PySem.W.mg_of X G a_law_odd, (fun_mk (st := s_law_odd) l_law_odd e_law_odd p_law_odd), ((fun_mk (st := s_law_odd) l_law_odd e_law_odd p_law_odd).binds (ps := ["_law_rule_here"]) fun _ _ _ _ _ _ us hl => match us, hl with | [_], _ => rfl)⟩,
    f_law_refused := ⟨f_law_refused, _, PySem.W.mg_of X G a_law_refused, (fun_mk (st := s_law_refused) l_law_refused e_law_refused p_law_refused), ((fun_mk (st := s_law_refused) l_law_refused e_law_refused p_law_refused).binds (ps := ["_law_text"]) fun _ _ _ _ _ _ us hl => match us, hl with | [_], _ => rfl)⟩,
    f_law_right := ⟨f_law_right, _, PySem.W.mg_of X G a_law_right, (fun_mk (st := s_law_right) l_law_right e_law_right p_law_right), ((fun_mk (st := s_law_right) l_law_right e_law_right p_law_right).binds (ps := ["_law_text"]) fun _ _ _ _ _ _ us hl => match us, hl with | [_], _ => rfl)⟩ }
  exact ⟨PySem.W.fnOf "law" "law" (defArgs s_law) (defBody s_law) (defScope s_law) .none kV_law dc_law pm_law an_law cd_law ct_law, fun s v => .of_eq rfl, fun base _ _ => ok_law (fun_mk (st := s_law) l_law e_law p_law) T⟩
theorem walk {l : PySem.W.OpenLaw} {q : Program} {loose : List Str} {XP : (Str → Option Value) → Heap → Prop} {YP : World → Heap → Prop} {d : DefRec} {K : Params → PySem.W.Frag} (hn : l.most = some 63) (hdf : d.params.defaults = [])
    (hY : ∀ (w : World) (h : Heap), YP w h → (K w.params).In h)
    (F : ∀ (w : World) (mg : Str → Option Value) (fa : Addr) (h : Heap), (K w.params).In h → h.Ns mainGlobals mg → mg d.name = some (.ref fa) →
      ∃ fd : FuncData, (∀ (s : Shared) (u : Value), BindsTo s fd ⟨[u], []⟩ [("_law_script", u)]) ∧ ∀ base : Heap, (K w.params).In base → base.Ns mainGlobals mg → FnOk l.prog w (K w.params) mg base (L2.CX l.prog w) 8 fa fd ["_law_script"] (sp1 (R_law (K w.params)))) :
    PySem.W.WalkO q loose XP YP l.row.toRowW d [] (fun f vs => PySem.call f vs) :=
  L2.walk_of (n := 63) (k := 8) (x := "_law_script") (CX := fun w => L2.CX l.prog w) (sp := fun w => sp1 (R_law (K w.params))) hn (by decide) hdf ⟨rfl, by decide, by decide⟩ hY F (fun _ _ a ns hl _ hS => ⟨_, rfl, a, ns, rfl, hS, hl, fun _ => rfl⟩) fun w H s e s' h => by
    obtain ⟨_, _, _, _, _, _, _, _, _, _, _, _, z⟩ := h
    exact z
end Lw
open PySem PySem.W PyProof.Rows
set_option maxRecDepth 100000 in
set_option maxHeartbeats 0 in
theorem PySem.Challenge.cw_forestread_k81_rules_read_holds : PySem.Challenge.rw_forestread_k81_rules_read.Holds := by
  w_on; o_law; k_head; (case hw => w_witness2)
  k_fill
  refine Lw.walk (l := PySem.Challenge.rw_forestread_k81_rules_read) rfl rfl (fun w h Y => PySem.W.kIn_of Y) ?F
  case F =>
    intro w mg fa h KX G hmg
    refine' Lw.all_mk KX G hmg ?b_ValueError ?b_bool ?b_int ?b_isinstance ?b_len ?b_ord ?b_range ?b_str ?b_tuple ?k_MOST_PARTS ?k_MOST_WORTH ?k_FIGURES ?k_MOST_FIGURES ?g_ForestError ?ex_ForestError ?kc_ForestError ?bc_ForestError ?tc_ForestError ?ic_ForestError ?ga_ForestError ?gk_ForestError ?hd_ForestError ?ha_ForestError ?hn_ForestError ?ht_ForestError ?hm_ForestError ?ve_ForestError ?g_NoGrammar ?ex_NoGrammar ?kc_NoGrammar ?bc_NoGrammar ?tc_NoGrammar ?ic_NoGrammar ?ga_NoGrammar ?gk_NoGrammar ?hd_NoGrammar ?ha_NoGrammar ?hn_NoGrammar ?ht_NoGrammar ?hm_NoGrammar ?ve_NoGrammar ?g_NoText ?ex_NoText ?kc_NoText ?bc_NoText ?tc_NoText ?ic_NoText ?ga_NoText ?gk_NoText ?hd_NoText ?ha_NoText ?hn_NoText ?ht_NoText ?hm_NoText ?ve_NoText ?g_NoRow ?ex_NoRow ?kc_NoRow ?bc_NoRow ?tc_NoRow ?ic_NoRow ?ga_NoRow ?gk_NoRow ?hd_NoRow ?ha_NoRow ?hn_NoRow ?ht_NoRow ?hm_NoRow ?ve_NoRow ?g_NoRule ?ex_NoRule ?kc_NoRule ?bc_NoRule ?tc_NoRule ?ic_NoRule ?ga_NoRule ?gk_NoRule ?hd_NoRule ?ha_NoRule ?hn_NoRule ?ht_NoRule ?hm_NoRule ?ve_NoRule ?su_NoRule_ForestError ?su_NoRule_NoGrammar ?su_NoRule_NoText ?su_NoRule_NoRow ?su_NoRule_NoRule ?a_is_whole ?l_is_whole ?e_is_whole ?p_is_whole ?a_may_stand ?l_may_stand ?e_may_stand ?p_may_stand ?a_is_sign ?l_is_sign ?e_is_sign ?p_is_sign ?a_is_name ?l_is_name ?e_is_name ?p_is_name ?a_are_parts ?l_are_parts ?e_are_parts ?p_are_parts ?a_is_rule ?l_is_rule ?e_is_rule ?p_is_rule ?a_read_figures ?l_read_figures ?e_read_figures ?p_read_figures ?a_read_part ?l_read_part ?e_read_part ?p_read_part ?a_read_rule ?l_read_rule ?e_read_rule ?p_read_rule ?a_law_cell_at ?l_law_cell_at ?e_law_cell_at ?p_law_cell_at ?a_law_sign ?l_law_sign ?e_law_sign ?p_law_sign ?a_law_name ?l_law_name ?e_law_name ?p_law_name ?a_law_part ?l_law_part ?e_law_part ?p_law_part ?a_law_worth ?l_law_worth ?e_law_worth ?p_law_worth ?a_law_rule ?l_law_rule ?e_law_rule ?p_law_rule ?a_law_written ?l_law_written ?e_law_written ?p_law_written ?a_law_alike ?l_law_alike ?e_law_alike ?p_law_alike ?a_law_figures ?l_law_figures ?e_law_figures ?p_law_figures ?a_law_is_name ?l_law_is_name ?e_law_is_name ?p_law_is_name ?a_law_due ?l_law_due ?e_law_due ?p_law_due ?a_law_spoilt ?l_law_spoilt ?e_law_spoilt ?p_law_spoilt ?a_law_odd ?l_law_odd ?e_law_odd ?p_law_odd ?a_law_refused ?l_law_refused ?e_law_refused ?p_law_refused ?a_law_right ?l_law_right ?e_law_right ?p_law_right ?a_law ?l_law ?e_law ?p_law
    (case b_ValueError => k_is)
    (case b_bool => k_is)
    (case b_int => k_is)
    (case b_isinstance => k_is)
    (case b_len => k_is)
    (case b_ord => k_is)
    (case b_range => k_is)
    (case b_str => k_is)
    (case b_tuple => k_is)
    (case k_MOST_PARTS => k_is)
    (case k_MOST_WORTH => k_is)
    (case k_FIGURES => k_is)
    (case k_MOST_FIGURES => k_is)
    (case g_ForestError => k_is)
    (case ex_ForestError => k_exc)
    (case kc_ForestError => k_is)
    (case bc_ForestError => k_is)
    (case tc_ForestError => k_is)
    (case ic_ForestError => k_is)
    (case ga_ForestError => k_is)
    (case gk_ForestError => k_is)
    (case hd_ForestError => k_is)
    (case ha_ForestError => k_is)
    (case hn_ForestError => k_is)
    (case ht_ForestError => k_is)
    (case hm_ForestError => k_is)
    (case ve_ForestError => k_is)
    (case g_NoGrammar => k_is)
    (case ex_NoGrammar => k_exc)
    (case kc_NoGrammar => k_is)
    (case bc_NoGrammar => k_is)
    (case tc_NoGrammar => k_is)
    (case ic_NoGrammar => k_is)
    (case ga_NoGrammar => k_is)
    (case gk_NoGrammar => k_is)
    (case hd_NoGrammar => k_is)
    (case ha_NoGrammar => k_is)
    (case hn_NoGrammar => k_is)
    (case ht_NoGrammar => k_is)
    (case hm_NoGrammar => k_is)
    (case ve_NoGrammar => k_is)
    (case g_NoText => k_is)
    (case ex_NoText => k_exc)
    (case kc_NoText => k_is)
    (case bc_NoText => k_is)
    (case tc_NoText => k_is)
    (case ic_NoText => k_is)
    (case ga_NoText => k_is)
    (case gk_NoText => k_is)
    (case hd_NoText => k_is)
    (case ha_NoText => k_is)
    (case hn_NoText => k_is)
    (case ht_NoText => k_is)
    (case hm_NoText => k_is)
    (case ve_NoText => k_is)
    (case g_NoRow => k_is)
    (case ex_NoRow => k_exc)
    (case kc_NoRow => k_is)
    (case bc_NoRow => k_is)
    (case tc_NoRow => k_is)
    (case ic_NoRow => k_is)
    (case ga_NoRow => k_is)
    (case gk_NoRow => k_is)
    (case hd_NoRow => k_is)
    (case ha_NoRow => k_is)
    (case hn_NoRow => k_is)
    (case ht_NoRow => k_is)
    (case hm_NoRow => k_is)
    (case ve_NoRow => k_is)
    (case g_NoRule => k_is)
    (case ex_NoRule => k_exc)
    (case kc_NoRule => k_is)
    (case bc_NoRule => k_is)
    (case tc_NoRule => k_is)
    (case ic_NoRule => k_is)
    (case ga_NoRule => k_is)
    (case gk_NoRule => k_is)
    (case hd_NoRule => k_is)
    (case ha_NoRule => k_is)
    (case hn_NoRule => k_is)
    (case ht_NoRule => k_is)
    (case hm_NoRule => k_is)
    (case ve_NoRule => k_is)
    (case su_NoRule_ForestError => first | k_is | rfl | decide)
    (case su_NoRule_NoGrammar => first | k_is | rfl | decide)
    (case su_NoRule_NoText => first | k_is | rfl | decide)
    (case su_NoRule_NoRow => first | k_is | rfl | decide)
    (case su_NoRule_NoRule => first | k_is | rfl | decide)
    (case a_is_whole => k_is)
    (case l_is_whole => k_is)
    (case e_is_whole => k_is)
    (case p_is_whole => k_is)
    (case a_may_stand => k_is)
    (case l_may_stand => k_is)
    (case e_may_stand => k_is)
    (case p_may_stand => k_is)
    (case a_is_sign => k_is)
    (case l_is_sign => k_is)
    (case e_is_sign => k_is)
    (case p_is_sign => k_is)
    (case a_is_name => k_is)
    (case l_is_name => k_is)
    (case e_is_name => k_is)
    (case p_is_name => k_is)
    (case a_are_parts => k_is)
    (case l_are_parts => k_is)
    (case e_are_parts => k_is)
    (case p_are_parts => k_is)
    (case a_is_rule => k_is)
    (case l_is_rule => k_is)
    (case e_is_rule => k_is)
    (case p_is_rule => k_is)
    (case a_read_figures => k_is)
    (case l_read_figures => k_is)
    (case e_read_figures => k_is)
    (case p_read_figures => k_is)
    (case a_read_part => k_is)
    (case l_read_part => k_is)
    (case e_read_part => k_is)
    (case p_read_part => k_is)
    (case a_read_rule => k_is)
    (case l_read_rule => k_is)
    (case e_read_rule => k_is)
    (case p_read_rule => k_is)
    (case a_law_cell_at => k_is)
    (case l_law_cell_at => k_is)
    (case e_law_cell_at => k_is)
    (case p_law_cell_at => k_is)
    (case a_law_sign => k_is)
    (case l_law_sign => k_is)
    (case e_law_sign => k_is)
    (case p_law_sign => k_is)
    (case a_law_name => k_is)
    (case l_law_name => k_is)
    (case e_law_name => k_is)
    (case p_law_name => k_is)
    (case a_law_part => k_is)
    (case l_law_part => k_is)
    (case e_law_part => k_is)
    (case p_law_part => k_is)
    (case a_law_worth => k_is)
    (case l_law_worth => k_is)
    (case e_law_worth => k_is)
    (case p_law_worth => k_is)
    (case a_law_rule => k_is)
    (case l_law_rule => k_is)
    (case e_law_rule => k_is)
    (case p_law_rule => k_is)
    (case a_law_written => k_is)
    (case l_law_written => k_is)
    (case e_law_written => k_is)
    (case p_law_written => k_is)
    (case a_law_alike => k_is)
    (case l_law_alike => k_is)
    (case e_law_alike => k_is)
    (case p_law_alike => k_is)
    (case a_law_figures => k_is)
    (case l_law_figures => k_is)
    (case e_law_figures => k_is)
    (case p_law_figures => k_is)
    (case a_law_is_name => k_is)
    (case l_law_is_name => k_is)
    (case e_law_is_name => k_is)
    (case p_law_is_name => k_is)
    (case a_law_due => k_is)
    (case l_law_due => k_is)
    (case e_law_due => k_is)
    (case p_law_due => k_is)
    (case a_law_spoilt => k_is)
    (case l_law_spoilt => k_is)
    (case e_law_spoilt => k_is)
    (case p_law_spoilt => k_is)
    (case a_law_odd => k_is)
    (case l_law_odd => k_is)
    (case e_law_odd => k_is)
    (case p_law_odd => k_is)
    (case a_law_refused => k_is)
    (case l_law_refused => k_is)
    (case e_law_refused => k_is)
    (case p_law_refused => k_is)
    (case a_law_right => k_is)
    (case l_law_right => k_is)
    (case e_law_right => k_is)
    (case p_law_right => k_is)
    (case a_law => k_is)
    (case l_law => k_is)
    (case e_law => k_is)
    (case p_law => k_is)
