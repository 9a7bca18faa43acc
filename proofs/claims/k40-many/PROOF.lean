import PyProof.Rows.All
import Wide.All
import OpenK.AllK
import Wide.FinOn
import HandS.ForMost
import HandS.ForExc
import HandS.Flow
import HandS.IsInst
import HandS.Wide
import PySem.Challenge.RW_forestread_k40_many
set_option Elab.async false
set_option linter.all false
set_option maxRecDepth 100000
set_option maxHeartbeats 2000000
/-! Weakest wishes of the pieces of a text: eW, tW, aW, sW, bW; rules by syntax. -/
namespace G
open PySem PySem.Spec PyProof.Rows L2
structure eW (X : Cx) (e : Expr) (σ : L2.St) (H : Hp) (Q : VK) : Prop where
  run : ∀ pins s, Inv X pins σ H s → wpAny (model X.prog X.w) X.A (eval e X.env) (EP X pins σ Q) X.xe s
structure tW (X : Cx) (e : Expr) (σ : L2.St) (H : Hp) (Q : Bool → Hp → Prop) : Prop where
  run : ∀ pins s, Inv X pins σ H s → wpAny (model X.prog X.w) X.A (isTrue e X.env (eval e X.env)) (TP X pins σ Q) X.xe s
structure cW (X : Cx) (e : Expr) (σ : L2.St) (H : Hp) (Q : Bool → Hp → Prop) : Prop where
  run : ∀ whole pins s, Inv X pins σ H s → wpAny (model X.prog X.w) X.A (isTrue e X.env whole) (TP X pins σ Q) X.xe s
structure aW (X : Cx) (es : List Expr) (σ : L2.St) (H : Hp) (Q : List V → Hp → Prop) : Prop where
  run : ∀ pos pins s, Inv X pins σ H s → wpAny (model X.prog X.w) X.A (spliced (backTo pos (starEach es X.env))) (AP X pins σ Q) X.xe s
structure sW (X : Cx) (st : Stmt) (D : Ends) (σ : L2.St) (H : Hp) : Prop where
  run : ∀ pins s, Inv X pins σ H s → wpAny (model X.prog X.w) X.A (exec st X.env) (SP X pins D) X.xe s
structure bW (X : Cx) (b : List Stmt) (D : Ends) (σ : L2.St) (H : Hp) : Prop where
  run : ∀ pins s, Inv X pins σ H s → wpAny (model X.prog X.w) X.A (execs b X.env) (SP X pins D) X.xe s
structure gW (X : Cx) (e : Expr) (v : V) (σ : L2.St) (H : Hp) (Q : L2.St → Hp → Prop) : Prop where
  run : ∀ pins s u, Inv X pins σ H s → RelV v u → wpAny (model X.prog X.w) X.A (assign e X.env u) (fun _ s' => ∃ σ' H', Inv X pins σ' H' s' ∧ Q σ' H') X.xe s
structure oW (X : Cx) (f : Value → Value → Sem Value) (x y : V) (H : Hp) (Q : VK) : Prop where
  run : ∀ pins s σ v u, Inv X pins σ H s → RelV x v → RelV y u → wpAny (model X.prog X.w) X.A (f v u) (EP X pins σ Q) X.xe s
structure uW (X : Cx) (f : Value → Sem Value) (x : V) (H : Hp) (Q : VK) : Prop where
  run : ∀ pins s σ v, Inv X pins σ H s → RelV x v → wpAny (model X.prog X.w) X.A (f v) (EP X pins σ Q) X.xe s
structure kW (X : Cx) (f : Value) (xs : List V) (H : Hp) (Q : VK) : Prop where
  run : ∀ pins s σ us, Inv X pins σ H s → Vals xs us → wpAny (model X.prog X.w) X.A (call f us) (EP X pins σ Q) X.xe s
section
variable {X : Cx} {e : Expr} {es : List Expr} {st : Stmt} {b : List Stmt}
theorem PEw : PE X e (eW X e) := ⟨fun pins s _ _ _ I h => h.run pins s I⟩
theorem PTw : PT X e (tW X e) := ⟨fun pins s _ _ _ I h => h.run pins s I⟩
theorem PWw : PW X e (cW X e) := ⟨fun wh pins s _ _ _ I h => h.run wh pins s I⟩
theorem PAw : PA X es (aW X es) := ⟨fun pos pins s _ _ _ I h => h.run pos pins s I⟩
theorem PSw : PS X st (sW X st) := ⟨fun pins s _ _ _ I h => h.run pins s I⟩
theorem PBw : PSs X b (bW X b) := ⟨fun pins s _ _ _ I h => h.run pins s I⟩
theorem PGw : PG X e (gW X e) := ⟨fun pins s _ _ v u _ I r h => h.run pins s u I r⟩
theorem OPw {f : Value → Value → Sem Value} : OpR X f (oW X f) := fun pins s σ H x y v u Q I rx ry h => h.run pins s σ v u I rx ry
theorem UNw {f : Value → Sem Value} : UnR X f (uW X f) := fun pins s σ H x v Q I rx h => h.run pins s σ v I rx
theorem KRw {f : Value} : CallR X f (kW X f) := fun pins s σ H xs us Q I r h => h.run pins s σ us I r
theorem eI {t : TE} {σ : L2.St} {H : Hp} {Q : VK} (h : PE X e t) (q : t σ H Q) : eW X e σ H Q := ⟨fun pins s I => h.run pins s σ H Q I q⟩
theorem tI {t : TT} {σ : L2.St} {H : Hp} {Q : Bool → Hp → Prop} (h : PT X e t) (q : t σ H Q) : tW X e σ H Q := ⟨fun pins s I => h.run pins s σ H Q I q⟩
theorem cI {t : TT} {σ : L2.St} {H : Hp} {Q : Bool → Hp → Prop} (h : PW X e t) (q : t σ H Q) : cW X e σ H Q := ⟨fun wh pins s I => h.run wh pins s σ H Q I q⟩
theorem aI {t : TA} {σ : L2.St} {H : Hp} {Q : List V → Hp → Prop} (h : PA X es t) (q : t σ H Q) : aW X es σ H Q := ⟨fun pos pins s I => h.run pos pins s σ H Q I q⟩
theorem sI {t : TS} {D : Ends} {σ : L2.St} {H : Hp} (h : PS X st t) (q : t D σ H) : sW X st D σ H := ⟨fun pins s I => h.run pins s σ H D I q⟩
theorem bI {t : TS} {D : Ends} {σ : L2.St} {H : Hp} (h : PSs X b t) (q : t D σ H) : bW X b D σ H := ⟨fun pins s I => h.run pins s σ H D I q⟩
theorem gI {t : TG} {v : V} {σ : L2.St} {H : Hp} {Q : L2.St → Hp → Prop} (h : PG X e t) (q : t v σ H Q) : gW X e v σ H Q := ⟨fun pins s u I r => h.run pins s σ H v u Q I r q⟩
theorem oI {f : Value → Value → Sem Value} {r : R2} {x y : V} {H : Hp} {Q : VK} (h : OpR X f r) (q : r x y H Q) : oW X f x y H Q := ⟨fun pins s σ v u I rx ry => h pins s σ H x y v u Q I rx ry q⟩
theorem uI {f : Value → Sem Value} {r : V → Hp → VK → Prop} {x : V} {H : Hp} {Q : VK} (h : UnR X f r) (q : r x H Q) : uW X f x H Q := ⟨fun pins s σ v I rx => h pins s σ H x v Q I rx q⟩
theorem kI {f : Value} {r : List V → Hp → VK → Prop} {xs : List V} {H : Hp} {Q : VK} (h : CallR X f r) (q : r xs H Q) : kW X f xs H Q := ⟨fun pins s σ us I rx => h pins s σ H xs us Q I rx q⟩
theorem eMono {σ : L2.St} {H : Hp} {Q Q' : VK} (h : eW X e σ H Q) (i : ∀ v H', Q v H' → Q' v H') : eW X e σ H Q' := ⟨fun pins s I => wpAny_mono (h.run pins s I) (fun _ _ ⟨v, H', a, b, c⟩ => ⟨v, H', a, b, i v H' c⟩) fun _ _ x => x⟩
theorem tMono {σ : L2.St} {H : Hp} {Q Q' : Bool → Hp → Prop} (h : tW X e σ H Q) (i : ∀ v H', Q v H' → Q' v H') : tW X e σ H Q' := ⟨fun pins s I => wpAny_mono (h.run pins s I) (fun _ _ ⟨H', a, c⟩ => ⟨H', a, i _ H' c⟩) fun _ _ x => x⟩
end

/-! ### what a context tells -/
def cxr (P : Program) (w : World) (K : PySem.W.Frag) (mg : Str → Option Value) (base : Heap) (N : List Str) (q : Str) (st : Stmt) (f : Addr) (cd : Value) (A : Around) (outer : List Env) (s : Shared) (H : Hp) (E : XK) : Cx := cxOf (L2.CX P w) P w K mg base N q (defScope st) f cd A outer s H E
class CxN (X : Cx) (N : outParam (List Str)) : Prop where h : X.N = N
class CxK (X : Cx) (K : outParam PySem.W.Frag) : Prop where h : X.K = K
class CxM (X : Cx) (mg : outParam (Str → Option Value)) : Prop where h : X.mg = mg
class CxC (X : Cx) : Prop where h : X.calm = true
class CxO (X : Cx) : Prop where h : PassesOwn (model X.prog X.w) X.A X.env X.xe
class CxT (X : Cx) (W : outParam WX) : Prop where h : Takes X W
/-- the slot of a name -/
class Slt (N : List Str) (x : Str) (i : outParam Nat) : Prop where h : N[i]? = some x
instance (priority := high) slt0 {x : Str} {N : List Str} : Slt (x :: N) x 0 := ⟨rfl⟩
instance slt1 {x y : Str} {N : List Str} {i : Nat} [s : Slt N x i] : Slt (y :: N) x (i + 1) := ⟨s.h⟩
class Blt (x : Str) (v : outParam Value) : Prop where h : bootBuiltins x = some v
instance : Blt "len" (.builtin "len") := ⟨boot_len⟩
instance : Blt "isinstance" (.builtin "isinstance") := ⟨boot_isinstance⟩
instance : Blt "min" (.builtin "min") := ⟨boot_min⟩
instance : Blt "max" (.builtin "max") := ⟨boot_max⟩
instance : Blt "sorted" (.builtin "sorted") := ⟨boot_sorted⟩
instance : Blt "sum" (.builtin "sum") := ⟨boot_sum⟩
instance : Blt "any" (.builtin "any") := ⟨boot_any⟩
instance : Blt "all" (.builtin "all") := ⟨boot_all⟩
instance : Blt "abs" (.builtin "abs") := ⟨boot_abs⟩
instance : Blt "ord" (.builtin "ord") := ⟨boot_ord⟩
instance : Blt "chr" (.builtin "chr") := ⟨boot_chr⟩
instance : Blt "range" (.type "range") := ⟨boot_range⟩
instance : Blt "list" (.type "list") := ⟨boot_list⟩
instance : Blt "tuple" (.type "tuple") := ⟨boot_tuple⟩
instance : Blt "int" (.type "int") := ⟨boot_int⟩
instance : Blt "str" (.type "str") := ⟨boot_str⟩
instance : Blt "bool" (.type "bool") := ⟨boot_bool⟩
instance : Blt "set" (.type "set") := ⟨boot_set⟩
instance : Blt "dict" (.type "dict") := ⟨boot_dict⟩
instance : Blt "enumerate" (.type "enumerate") := ⟨boot_enumerate⟩
instance : Blt "zip" (.type "zip") := ⟨boot_zip⟩
instance : Blt "reversed" (.type "reversed") := ⟨boot_reversed⟩
instance : Blt "ValueError" (.type "ValueError") := ⟨by decide +kernel⟩
/-- what a name of the module holds -/
class Gn (mg : Str → Option Value) (x : Str) (v : outParam (Option Value)) : Prop where h : mg x = v
section
variable {P : Program} {w : World} {K : PySem.W.Frag} {mg : Str → Option Value} {base : Heap} {N : List Str} {q : Str} {st : Stmt} {f : Addr} {cd : Value} {A : Around} {outer : List Env} {s : Shared} {H : Hp} {E : XK}
instance : CxN (cxr P w K mg base N q st f cd A outer s H E) N := ⟨rfl⟩
instance : CxK (cxr P w K mg base N q st f cd A outer s H E) K := ⟨rfl⟩
instance : CxM (cxr P w K mg base N q st f cd A outer s H E) mg := ⟨rfl⟩
instance : CxC (cxr P w K mg base N q st f cd A outer s H E) := ⟨rfl⟩
instance : CxO (cxr P w K mg base N q st f cd A outer s H E) := ⟨passes_of (X := cxr P w K mg base N q st f cd A outer s H E) rfl⟩
instance : CxT (cxr P w K mg base N q st f cd A outer s H E) (fun cls d _ H => E cls d H) := ⟨takes_of (X := cxr P w K mg base N q st f cd A outer s H E) rfl rfl rfl rfl⟩
end
section
variable {X : Cx} {s : Shared} {H : Hp} {sc : Scope} {ce : Env} {fp : List Addr} {pn : List (Addr × Obj)} {xe : Value → Shared → Prop} {a : Addr}
instance {N : List Str} [c : CxN X N] : CxN (X.blk s H sc ce fp) N := ⟨c.h⟩
instance {K : PySem.W.Frag} [c : CxK X K] : CxK (X.blk s H sc ce fp) K := ⟨c.h⟩
instance {mg : Str → Option Value} [c : CxM X mg] : CxM (X.blk s H sc ce fp) mg := ⟨c.h⟩
instance [c : CxC X] : CxC (X.blk s H sc ce fp) := ⟨c.h⟩
instance : CxT (X.blk s H sc ce fp) (fun _ _ _ _ => False) := ⟨takes0⟩
instance {N : List Str} [c : CxN X N] : CxN (X.tr pn xe) N := ⟨c.h⟩
instance {K : PySem.W.Frag} [c : CxK X K] : CxK (X.tr pn xe) K := ⟨c.h⟩
instance {mg : Str → Option Value} [c : CxM X mg] : CxM (X.tr pn xe) mg := ⟨c.h⟩
instance [c : CxC X] : CxC (X.tr pn xe) := ⟨c.h⟩
instance {N : List Str} [c : CxN X N] : CxN (X.suite a pn) N := ⟨c.h⟩
instance {K : PySem.W.Frag} [c : CxK X K] : CxK (X.suite a pn) K := ⟨c.h⟩
instance {mg : Str → Option Value} [c : CxM X mg] : CxM (X.suite a pn) mg := ⟨c.h⟩
end

/-! ### expressions -/
section
variable {X : Cx} {σ : L2.St} {H : Hp} {Q : VK} {pos p2 p3 p4 : Pos} {a b c : Expr} {rest : List Expr}
theorem e_var {N : List Str} {x : Str} {i : Nat} {v : V} [cn : CxN X N] [sl : Slt N x i] (hs : σ[i]? = some (some v)) (q : Q v H)
    (hv : Vis X.env.scope x := by first | exact Or.inl rfl | exact Or.inr (Or.inl rfl) | exact Or.inr (Or.inr rfl)) (hd : (x == ("__debug__" : Str)) = false := by decide) (hcd : (x == ("__classdict__" : Str)) = false := by decide) : eW X (.Name x pos) σ H Q :=
  eI (pe_var (i := i) (by rw [cn.h]; exact sl.h) hv hd hcd) ⟨v, hs, q⟩
theorem e_int {i : Int} {j : Nat} (q : Q (.int i) H) : eW X (.Constant (.int i) j pos) σ H Q := eI pe_int q
theorem e_bl {i : Bool} {j : Nat} (q : Q (.bl i) H) : eW X (.Constant (.bool i) j pos) σ H Q := eI pe_bl q
theorem e_non {j : Nat} (q : Q .non H) : eW X (.Constant .none j pos) σ H Q := eI pe_non q
theorem e_str {x : Str} {j : Nat} (q : Q (.str x) H) : eW X (.Constant (.str x) j pos) σ H Q := eI pe_str q
theorem e_glob {mg : Str → Option Value} {x : Str} {u : Value} {v : V} [cm : CxM X mg] [g : Gn mg x (some u)] (r : RelV v u) (q : Q v H) (hg : Gl X x := by rfl) (hd : (x == ("__debug__" : Str)) = false := by decide) : eW X (.Name x pos) σ H Q :=
  eI (pe_glob hg (by rw [cm.h]; exact g.h) r hd) q
theorem e_globR {mg : Str → Option Value} {x : Str} {f : Addr} [cm : CxM X mg] [g : Gn mg x (some (.ref f))] (q : Q (.ref f) H) (hg : Gl X x := by rfl) (hd : (x == ("__debug__" : Str)) = false := by decide) : eW X (.Name x pos) σ H Q :=
  eI (pe_glob (v := .ref f) hg (by rw [cm.h]; exact g.h) rfl hd) q
theorem e_globI {mg : Str → Option Value} {x : Str} {i : Int} {t : Tok} [cm : CxM X mg] [g : Gn mg x (some (.int i t))] (q : Q (.int i) H) (hg : Gl X x := by rfl) (hd : (x == ("__debug__" : Str)) = false := by decide) : eW X (.Name x pos) σ H Q :=
  eI (pe_glob (v := .int i) hg (by rw [cm.h]; exact g.h) ⟨_, rfl⟩ hd) q
theorem e_globS {mg : Str → Option Value} {x : Str} {i : Str} {t : Tok} [cm : CxM X mg] [g : Gn mg x (some (.str i t))] (q : Q (.str i) H) (hg : Gl X x := by rfl) (hd : (x == ("__debug__" : Str)) = false := by decide) : eW X (.Name x pos) σ H Q :=
  eI (pe_glob (v := .str i) hg (by rw [cm.h]; exact g.h) ⟨_, rfl⟩ hd) q
theorem e_ty {mg : Str → Option Value} {x : Str} {n : String} [cm : CxM X mg] [g : Gn mg x none] [bl : Blt x (.type n)] (q : Q (.ty n) H) (hg : Gl X x := by rfl) (hn : x ≠ "__name__" := by decide) (hd : (x == ("__debug__" : Str)) = false := by decide) : eW X (.Name x pos) σ H Q :=
  eI (pe_bltn (v := .ty n) hg (by rw [cm.h]; exact g.h) bl.h rfl hn hd) q
theorem e_bin {op : Operator} (h : eW X a σ H fun x H1 => eW X b σ H1 fun y H2 => oW X (binaryOp op) x y H2 Q) : eW X (.BinOp a op b pos) σ H Q := eI (pe_op OPw PEw PEw) h
theorem e_un {op : UnaryOp} (h : eW X a σ H fun x H1 => uW X (unaryOp op) x H1 Q) : eW X (.UnaryOp op a pos) σ H Q := eI (pe_un UNw PEw) h
theorem e_cmp {op : CmpOp} (h : eW X a σ H fun x H1 => eW X b σ H1 fun y H2 => oW X (compareOp op) x y H2 Q) (hm : behindInMarks op b = false := by first | exact nomark _ | rfl) : eW X (.Compare a [op] [b] pos) σ H Q := eI (pe_cmpR OPw PEw PEw hm) h
theorem e_isN {j : Nat} (h : eW X a σ H fun x H1 => Q (.bl (decide (x = .non))) H1) : eW X (.Compare a [.Is] [.Constant .none j p2] pos) σ H Q := eI (pe_cmp (pc_isN PEw) rfl) h
theorem e_notN {j : Nat} (h : eW X a σ H fun x H1 => Q (.bl (!decide (x = .non))) H1) : eW X (.Compare a [.IsNot] [.Constant .none j p2] pos) σ H Q := eI (pe_cmp (pc_notN PEw) rfl) h
theorem e_ifE {t : Expr} (h : tW X t σ H fun k H1 => if k = true then eW X a σ H1 Q else eW X b σ H1 Q) : eW X (.IfExp t a b pos) σ H Q := eI (pe_ifExp PTw PEw PEw) h
theorem e_one {op : BoolOp} (h : eW X a σ H Q) : eW X (.BoolOp op [a] pos) σ H Q := eI (pe_one PEw) h
theorem e_and (h : eW X a σ H fun x H1 => ∃ k, x = .bl k ∧ if k = true then eW X (.BoolOp .And (b :: rest) pos) σ H1 Q else Q (.bl false) H1) : eW X (.BoolOp .And (a :: b :: rest) pos) σ H Q := eI (pe_and PEw PEw) h
theorem e_or (h : eW X a σ H fun x H1 => ∃ k, x = .bl k ∧ if k = true then Q (.bl true) H1 else eW X (.BoolOp .Or (b :: rest) pos) σ H1 Q) : eW X (.BoolOp .Or (a :: b :: rest) pos) σ H Q := eI (pe_or PEw PEw) h
theorem e_not (h : eW X a σ H fun x H1 => ∃ k, x = .bl k ∧ Q (.bl (!k)) H1) : eW X (.UnaryOp .Not a pos) σ H Q := eI (pe_not PEw) h
theorem e_tup {es : List Expr} {k : Nat} (h : aW X es σ H fun xs H1 => xs.length ≤ sizeLine ∧ ∀ p, H1 p = none → Q (.ref p) (upd H1 p (.tup xs))) : eW X (.Tuple es k pos) σ H Q := eI (pe_tup PAw) h
theorem e_lst {es : List Expr} (h : aW X es σ H fun xs H1 => xs.length ≤ sizeLine ∧ ∀ p, H1 p = none → Q (.ref p) (upd H1 p (.lst xs))) : eW X (.List es pos) σ H Q := eI (pe_lst PAw) h
/-- and, or of two truths whose joint answer is told -/
theorem e_andJ {d : Bool} (h : eW X a σ H fun x H1 => ∃ k, x = .bl k ∧ (k = true → ∀ Q' : VK, Q' (.bl d) H1 → eW X (.BoolOp .And (b :: rest) pos) σ H1 Q') ∧ Q (.bl (k && d)) H1) : eW X (.BoolOp .And (a :: b :: rest) pos) σ H Q :=
  e_and (eMono h fun x H1 ⟨k, e, h1, h2⟩ => ⟨k, e, by cases k with | true => exact (h1 rfl _ h2) | false => exact h2⟩)
theorem e_orJ {d : Bool} (h : eW X a σ H fun x H1 => ∃ k, x = .bl k ∧ (k = false → ∀ Q' : VK, Q' (.bl d) H1 → eW X (.BoolOp .Or (b :: rest) pos) σ H1 Q') ∧ Q (.bl (k || d)) H1) : eW X (.BoolOp .Or (a :: b :: rest) pos) σ H Q :=
  e_or (eMono h fun x H1 ⟨k, e, h1, h2⟩ => ⟨k, e, by cases k with | true => exact h2 | false => exact (h1 rfl _ h2)⟩)
/-- a chain of two comparisons -/
theorem e_chain {op op' : CmpOp} (h : tChain (oW X (compareOp op)) (oW X (compareOp op')) (eW X a) (eW X b) (eW X c) σ H Q)
    (hp : PE X (.Compare a [op, op'] [b, c] pos) (tChain (oW X (compareOp op)) (oW X (compareOp op')) (eW X a) (eW X b) (eW X c)) := by exact pe_chain OPw OPw PEw PEw PEw) : eW X (.Compare a [op, op'] [b, c] pos) σ H Q := eI hp h

/-! ### arguments -/
theorem a_nil {R : List V → Hp → Prop} (h : R [] H) : aW X [] σ H R := aI pa_nil h
theorem a_cons {es : List Expr} {R : List V → Hp → Prop} (h : eW X a σ H fun x H1 => aW X es σ H1 fun xs H2 => R (x :: xs) H2) (hs : starEach (a :: es) X.env = (false, eval a X.env) :: starEach es X.env := by rfl) : aW X (a :: es) σ H R := aI (pa_cons PEw PAw hs) h

/-! ### tests -/
variable {R : Bool → Hp → Prop}
theorem t_val {e : Expr} (h : eW X e σ H fun x H1 => ∃ k, x = .bl k ∧ R k H1) (he : ∀ whole, isTrue e X.env whole = (do let v ← whole; standAt e.pos; holding [v] (truthy v)) := by intro _; rfl) : tW X e σ H R := tI (pt_val PEw he) h
theorem t_tru {e : Expr} (h : eW X e σ H fun x H1 => ∃ k, TruV X.K x H1 k ∧ R k H1) (he : ∀ whole, isTrue e X.env whole = (do let v ← whole; standAt e.pos; holding [v] (truthy v)) := by intro _; rfl) : tW X e σ H R := tI (pt_truth PEw he) h
theorem t_cmp {op : CmpOp} (h : eW X a σ H fun x H1 => eW X b σ H1 fun y H2 => oW X (compareOp op) x y H2 fun z H3 => ∃ k, z = .bl k ∧ R k H3) (hm : behindInMarks op b = false := by first | exact nomark _ | rfl) : tW X (.Compare a [op] [b] pos) σ H R := tI (pt_cmpR OPw PEw PEw hm) h
theorem t_isN {j : Nat} (h : eW X a σ H fun x H1 => R (decide (x = .non)) H1) : tW X (.Compare a [.Is] [.Constant .none j p2] pos) σ H R := tI (pt_cmp (pc_isN PEw) rfl) (eMono h fun _ _ q => ⟨_, rfl, q⟩)
theorem t_notN {j : Nat} (h : eW X a σ H fun x H1 => R (!decide (x = .non)) H1) : tW X (.Compare a [.IsNot] [.Constant .none j p2] pos) σ H R := tI (pt_cmp (pc_notN PEw) rfl) (eMono h fun _ _ q => ⟨_, rfl, q⟩)
theorem t_not (h : tW X a σ H fun k H1 => R (!k) H1) : tW X (.UnaryOp .Not a pos) σ H R := tI (pt_not PTw) h
theorem t_and (h : cW X (.BoolOp .And rest pos) σ H R) : tW X (.BoolOp .And rest pos) σ H R := tI (PWw).pt h
theorem t_or (h : cW X (.BoolOp .Or rest pos) σ H R) : tW X (.BoolOp .Or rest pos) σ H R := tI (PWw).pt h
theorem c_and1 (h : tW X a σ H R) : cW X (.BoolOp .And [a] pos) σ H R := cI (pw_and1 PTw) h
theorem c_or1 (h : tW X a σ H R) : cW X (.BoolOp .Or [a] pos) σ H R := cI (pw_or1 PTw) h
theorem c_and (h : tW X a σ H fun k H1 => if k = true then cW X (.BoolOp .And (b :: rest) pos) σ H1 R else R false H1) : cW X (.BoolOp .And (a :: b :: rest) pos) σ H R := cI (pw_and PTw PWw) h
theorem c_or (h : tW X a σ H fun k H1 => if k = true then R true H1 else cW X (.BoolOp .Or (b :: rest) pos) σ H1 R) : cW X (.BoolOp .Or (a :: b :: rest) pos) σ H R := cI (pw_or PTw PWw) h
/-- .. joined: the answer of both is told -/
theorem c_andJ {d : Bool} (h : tW X a σ H fun k H1 => (k = true → ∀ R' : Bool → Hp → Prop, R' d H1 → cW X (.BoolOp .And (b :: rest) pos) σ H1 R') ∧ R (k && d) H1) : cW X (.BoolOp .And (a :: b :: rest) pos) σ H R :=
  c_and (tMono h fun k H1 ⟨h1, h2⟩ => by cases k with | true => exact (h1 rfl _ h2) | false => exact h2)
theorem c_orJ {d : Bool} (h : tW X a σ H fun k H1 => (k = false → ∀ R' : Bool → Hp → Prop, R' d H1 → cW X (.BoolOp .Or (b :: rest) pos) σ H1 R') ∧ R (k || d) H1) : cW X (.BoolOp .Or (a :: b :: rest) pos) σ H R :=
  c_or (tMono h fun k H1 ⟨h1, h2⟩ => by cases k with | true => exact h2 | false => exact (h1 rfl _ h2))
end

/-! ### statements -/
section
variable {X : Cx} {σ : L2.St} {H : Hp} {D : Ends} {pos p2 p3 p4 : Pos} {e it tg : Expr} {st : Stmt} {body more : List Stmt}
theorem b_nil (h : D.nx σ H) : bW X [] D σ H := bI pss_nil h
theorem b_cons (h : sW X st { D with nx := bW X more D } σ H) : bW X (st :: more) D σ H := bI (pss_cons PSw PBw) h
theorem b_one (h : sW X st D σ H) : bW X [st] D σ H := bI (pss_one PSw) h
theorem s_ret (h : eW X e σ H D.rt) : sW X (.Return (some e) pos) D σ H := sI (ps_ret PEw) h
theorem s_retN (h : D.rt .non H) : sW X (.Return none pos) D σ H := sI ps_retN h
theorem s_pass (h : D.nx σ H) : sW X (.Pass pos) D σ H := sI ps_pass h
theorem s_brk (h : D.bk σ H) : sW X (.Break pos) D σ H := sI ps_break h
theorem s_cont (h : D.ct σ H) : sW X (.Continue pos) D σ H := sI ps_continue h
theorem s_expr (h : eW X e σ H fun _ H1 => D.nx σ H1) (hs : swapsWith e none pos.line X.env = pure false := by rfl) : sW X (.Expr e pos) D σ H := sI (ps_expr PEw hs) h
theorem s_if {t : Expr} {x y : List Stmt} (h : tW X t σ H fun k H1 => if k = true then bW X x D σ H1 else bW X y D σ H1) : sW X (.If t x y pos) D σ H := sI (ps_if PTw PBw PBw) h
class NdN (N : List Str) : Prop where h : N.Nodup
theorem s_set {N : List Str} {x : Str} {i : Nat} [cn : CxN X N] [sl : Slt N x i] [nd : NdN N] (h : eW X e σ H fun v H1 => D.nx (σ.set i (some v)) H1) (hx : Loc X.env.scope x := by first | exact Or.inl rfl | exact Or.inr rfl) (hs : swapsWith e (some (.Name x p2)) pos.line X.env = pure false := by rfl)
    (hf : X.fn x = true ∨ X.env.scope.names.lookup x = some .local := by first | exact .inl rfl | exact .inr rfl | assumption) : sW X (.Assign [.Name x p2] e pos) D σ H :=
  sI (ps_set (i := i) (by rw [cn.h]; exact nd.h) (by rw [cn.h]; exact sl.h) hx PEw hs hf) h
theorem g_name {N : List Str} {x : Str} {i : Nat} {v : V} {Q : L2.St → Hp → Prop} [cn : CxN X N] [sl : Slt N x i] [nd : NdN N] (h : Q (σ.set i (some v)) H) (hx : Loc X.env.scope x := by first | exact Or.inl rfl | exact Or.inr rfl)
    (hf : X.fn x = true ∨ X.env.scope.names.lookup x = some .local := by first | exact .inl rfl | exact .inr rfl | assumption) : gW X (.Name x pos) v σ H Q :=
  gI (pg_name (i := i) (by rw [cn.h]; exact nd.h) (by rw [cn.h]; exact sl.h) hx hf) h
theorem s_asg (h : eW X e σ H fun v H1 => gW X tg v σ H1 D.nx) (hs : swapsWithSole [tg] e pos.line X.env = pure false := by rfl) (hw : swappedStores [tg] e X.env = pure none := by rfl)
    (h1 : (assignEach [tg] X.env).map (·.2) = [assign tg X.env] := by rfl) : sW X (.Assign [tg] e pos) D σ H := sI (ps_asg PEw PGw hs hw h1) h
/-- while: W by what is left -/
theorem s_while {c : Expr} [ow : CxO X] (W : Nat → L2.St → Hp → Prop) (m : Nat) (h0 : W m σ H)
    (h : ∀ m σ H, W m σ H → tW X c σ H fun b H1 => if b = true then bW X body { D with nx := fun σ' H' => ∃ m', m' < m ∧ W m' σ' H', ct := fun σ' H' => ∃ m', m' < m ∧ W m' σ' H', bk := D.nx } σ H1 else D.nx σ H1) : sW X (.While c body [] pos) D σ H :=
  sI (ps_while ow.h PTw PBw) ⟨W, ⟨m, h0⟩, fun m σ H w => tMono (h m σ H w) fun b H1 q => by
    cases b with
    | true => exact ⟨_, fun _ _ z => z, q⟩
    | false => exact q⟩
theorem s_forL [ow : CxO X] [cc : CxC X] (h : eW X it σ H fun x H1 => ∃ a xs, x = .ref a ∧ SqL X.K H1 a xs ∧ ∃ Pv : Nat → L2.St → Hp → Prop, Pv 0 σ H1 ∧ (∀ i σ' H', i ≤ xs.length → Pv i σ' H' → SqL X.K H' a xs) ∧
      (∀ i v σ' H', xs[i]? = some v → Pv i σ' H' → gW X tg v σ' H' fun σ2 H2 => bW X body { D with nx := Pv (i + 1), ct := Pv (i + 1), bk := D.nx } σ2 H2) ∧ ∀ σ' H', Pv xs.length σ' H' → D.nx σ' H') (hs : ∀ x, foldedSetIterable it X.env x = pure x := by intro _; rfl) : sW X (.For tg it body [] pos) D σ H :=
  sI (ps_for ow.h cc.h (pi_list PEw) PGw PBw hs) (eMono h fun x H1 ⟨a, xs, e1, e2, Pv, q0, q1, q2, q3⟩ => ⟨a, e1, ⟨xs, e2⟩, for_list (K := X.K) (a := a) (xs := xs) Pv q0 q1 q2 q3⟩)
theorem s_forT [ow : CxO X] [cc : CxC X] (h : eW X it σ H fun x H1 => ∃ a xs, x = .ref a ∧ SqT X.K H1 a xs ∧ ∃ Pv : Nat → L2.St → Hp → Prop, Pv 0 σ H1 ∧ (∀ i σ' H', i ≤ xs.length → Pv i σ' H' → SqT X.K H' a xs) ∧
      (∀ i v σ' H', xs[i]? = some v → Pv i σ' H' → gW X tg v σ' H' fun σ2 H2 => bW X body { D with nx := Pv (i + 1), ct := Pv (i + 1), bk := D.nx } σ2 H2) ∧ ∀ σ' H', Pv xs.length σ' H' → D.nx σ' H') (hs : ∀ x, foldedSetIterable it X.env x = pure x := by intro _; rfl) : sW X (.For tg it body [] pos) D σ H :=
  sI (ps_for ow.h cc.h (pi_tup PEw) PGw PBw hs) (eMono h fun x H1 ⟨a, xs, e1, e2, Pv, q0, q1, q2, q3⟩ => ⟨a, e1, ⟨xs, e2⟩, for_tup (K := X.K) (a := a) (xs := xs) Pv q0 q1 q2 q3⟩)
end

/-! ### values -/
section
variable {X : Cx} {H : Hp} {Q : VK} {i j : Int} {k l : Bool} {x y : V} {z u : Str}
theorem o_add (q : Q (.int (i + j)) H) : oW X (binaryOp .Add) (.int i) (.int j) H Q := oI op_add ⟨_, _, rfl, rfl, q⟩
theorem o_sub (q : Q (.int (i - j)) H) : oW X (binaryOp .Sub) (.int i) (.int j) H Q := oI op_sub ⟨_, _, rfl, rfl, q⟩
theorem o_mul (h : CMulW i j) (q : Q (.int (i * j)) H) : oW X (binaryOp .Mult) (.int i) (.int j) H Q := oI op_mulW ⟨_, _, rfl, rfl, h, q⟩
theorem o_mulS (h : CMul i j) (q : Q (.int (i * j)) H) : oW X (binaryOp .Mult) (.int i) (.int j) H Q := oI op_mul ⟨_, _, rfl, rfl, h, q⟩
theorem o_mod (h : 0 < j) (q : Q (.int (i % j)) H) : oW X (binaryOp .Mod) (.int i) (.int j) H Q := oI op_mod ⟨_, _, rfl, rfl, h, q⟩
theorem o_div (h : CDiv i j) (q : Q (.int (i / j)) H) : oW X (binaryOp .FloorDiv) (.int i) (.int j) H Q := oI op_fdiv ⟨_, _, rfl, rfl, h, q⟩
theorem o_pow (h : CPow i j) (q : Q (.int (i ^ j.toNat)) H) : oW X (binaryOp .Pow) (.int i) (.int j) H Q := oI op_pow ⟨_, _, rfl, rfl, h, q⟩
theorem o_cat (h : z.length + u.length ≤ sizeLine) (q : Q (.str (z ++ u)) H) : oW X (binaryOp .Add) (.str z) (.str u) H Q := oI op_add_str ⟨_, _, rfl, rfl, h, q⟩
theorem o_lt (q : Q (.bl (decide (i < j))) H) : oW X (compareOp .Lt) (.int i) (.int j) H Q := oI op_lt ⟨_, _, rfl, rfl, q⟩
theorem o_le (q : Q (.bl (decide (i ≤ j))) H) : oW X (compareOp .LtE) (.int i) (.int j) H Q := oI op_le ⟨_, _, rfl, rfl, q⟩
theorem o_gt (q : Q (.bl (decide (j < i))) H) : oW X (compareOp .Gt) (.int i) (.int j) H Q := oI op_gt ⟨_, _, rfl, rfl, q⟩
theorem o_ge (q : Q (.bl (decide (j ≤ i))) H) : oW X (compareOp .GtE) (.int i) (.int j) H Q := oI op_ge ⟨_, _, rfl, rfl, q⟩
theorem o_eqI (q : Q (.bl (decide (i = j))) H) : oW X (compareOp .Eq) (.int i) (.int j) H Q := oI op_eq ⟨rfl, by rw [show decide (V.int i = V.int j) = decide (i = j) from decide_eq_decide.mpr ⟨fun e => V.int.inj e, fun e => by rw [e]⟩]; exact q⟩
theorem o_neI (q : Q (.bl (!decide (i = j))) H) : oW X (compareOp .NotEq) (.int i) (.int j) H Q := oI op_ne ⟨rfl, by rw [show decide (V.int i = V.int j) = decide (i = j) from decide_eq_decide.mpr ⟨fun e => V.int.inj e, fun e => by rw [e]⟩]; exact q⟩
theorem o_eqS (q : Q (.bl (decide (z = u))) H) : oW X (compareOp .Eq) (.str z) (.str u) H Q := oI op_eq ⟨rfl, by rw [show decide (V.str z = V.str u) = decide (z = u) from decide_eq_decide.mpr ⟨fun e => V.str.inj e, fun e => by rw [e]⟩]; exact q⟩
theorem o_neS (q : Q (.bl (!decide (z = u))) H) : oW X (compareOp .NotEq) (.str z) (.str u) H Q := oI op_ne ⟨rfl, by rw [show decide (V.str z = V.str u) = decide (z = u) from decide_eq_decide.mpr ⟨fun e => V.str.inj e, fun e => by rw [e]⟩]; exact q⟩
theorem o_eqB (q : Q (.bl (decide (k = l))) H) : oW X (compareOp .Eq) (.bl k) (.bl l) H Q := oI op_eq ⟨rfl, by rw [show decide (V.bl k = V.bl l) = decide (k = l) from decide_eq_decide.mpr ⟨fun e => V.bl.inj e, fun e => by rw [e]⟩]; exact q⟩
theorem o_neB (q : Q (.bl (!decide (k = l))) H) : oW X (compareOp .NotEq) (.bl k) (.bl l) H Q := oI op_ne ⟨rfl, by rw [show decide (V.bl k = V.bl l) = decide (k = l) from decide_eq_decide.mpr ⟨fun e => V.bl.inj e, fun e => by rw [e]⟩]; exact q⟩
theorem u_neg (q : Q (.int (-i)) H) : uW X (unaryOp .USub) (.int i) H Q := uI un_neg ⟨_, rfl, q⟩
end
theorem iteD {p : Prop} [Decidable p] {A B : Prop} (h1 : p → A) (h2 : ¬ p → B) : if decide p = true then A else B := by
  by_cases h : p
  · rw [if_pos (decide_eq_true h)]; exact h1 h
  · rw [decide_eq_false h, if_neg Bool.false_ne_true]; exact h2 h
theorem iteND {p : Prop} [Decidable p] {A B : Prop} (h1 : ¬ p → A) (h2 : p → B) : if (!decide p) = true then A else B := by
  by_cases h : p
  · rw [decide_eq_true h]; exact iteF (h2 h)
  · rw [decide_eq_false h]; exact iteT (h1 h)
theorem iteB {k : Bool} {A B : Prop} (h1 : k = true → A) (h2 : k = false → B) : if k = true then A else B := by
  cases k with
  | true => exact iteT (h1 rfl)
  | false => exact iteF (h2 rfl)

/-! ### calls -/
section
variable {X : Cx} {σ : L2.St} {H : Hp} {Q : VK} {pos p2 p3 p4 apos : Pos} {a e : Expr} {es : List Expr} {P : Program} {w : World} {K : PySem.W.Frag} {mg : Str → Option Value} {base : Heap}
/-- a def of the module by its name: where it stands, how it binds, its promise -/
structure Df (P : Program) (w : World) (K : PySem.W.Frag) (mg : Str → Option Value) (base : Heap) (x : Str) (k : Nat) (ps : List Str) (sp : Sp) : Prop where
  ex : ∃ (f : Addr) (fd : FuncData), mg x = some (.ref f) ∧ PySem.W.keepIn K (.ref f) = true ∧ Binds K fd ps [] ∧ FnOk P w K mg base (L2.CX P w) k f fd ps sp
theorem e_call {x : Str} {k : Nat} {ps : List Str} {sp : Sp} {W : WX} [ct : CxT X W] (F : Df X.prog X.w X.K X.mg X.base x k ps sp) (hr : Room k X.A) (h : aW X (e :: es) σ H fun vs H1 => sp vs H1 Q fun cls d H' => W cls d σ H')
    (hg : Gl X x := by rfl) (hdb : (x == ("__debug__" : Str)) = false := by decide) (he : starEach (e :: es) X.env = (false, eval e X.env) :: starEach es X.env := by rfl) (hpl : (backTo pos (starEach es X.env)).any (·.1) = false := by rfl) : eW X (.Call (.Name x p2) (e :: es) [] pos) σ H Q := by
  obtain ⟨f, fd, h1, h2, h3, h4⟩ := F.ex
  exact eI (pe_callS (E := WE W) h4 hr hg h1 h2 h3 (fun σ => passAt ct.h σ) PAw hdb he hpl) h
theorem e_call0 {x : Str} {k : Nat} {ps : List Str} {sp : Sp} (F : Df X.prog X.w X.K X.mg X.base x k ps sp) (hr : Room k X.A) (h : sp [] H Q E0)
    (hg : Gl X x := by rfl) (hdb : (x == ("__debug__" : Str)) = false := by decide) : eW X (.Call (.Name x p2) [] [] pos) σ H Q := by
  obtain ⟨f, fd, h1, h2, h3, h4⟩ := F.ex
  exact eI (pe_call0 (E := E0) h4 hr hg h1 h2 h3 .nil passL hdb) h
theorem e_callB {x : Str} {id : String} [cm : CxM X mg] [g : Gn mg x none] [bl : Blt x (.builtin id)] (h : aW X (e :: es) σ H fun vs H1 => kW X (.builtin id) vs H1 Q)
    (hg : Gl X x := by rfl) (hn : x ≠ "__name__" := by decide) (hdb : (x == ("__debug__" : Str)) = false := by decide) (he : starEach (e :: es) X.env = (false, eval e X.env) :: starEach es X.env := by rfl) (hpl : (backTo pos (starEach es X.env)).any (·.1) = false := by rfl) : eW X (.Call (.Name x p2) (e :: es) [] pos) σ H Q :=
  eI (pe_callB KRw hg (by rw [cm.h]; exact g.h) bl.h PAw hn hdb he hpl) h
theorem e_callTy {x : Str} {id : String} [cm : CxM X mg] [g : Gn mg x none] [bl : Blt x (.type id)] (h : aW X (e :: es) σ H fun vs H1 => kW X (.type id) vs H1 Q)
    (hg : Gl X x := by rfl) (hn : x ≠ "__name__" := by decide) (hdb : (x == ("__debug__" : Str)) = false := by decide) (he : starEach (e :: es) X.env = (false, eval e X.env) :: starEach es X.env := by rfl) (hpl : (backTo pos (starEach es X.env)).any (·.1) = false := by rfl) : eW X (.Call (.Name x p2) (e :: es) [] pos) σ H Q :=
  eI (pe_callTy KRw hg (by rw [cm.h]; exact g.h) bl.h PAw hn hdb he hpl) h
end
/-! ### defs and classes of the text -/
structure At (K : PySem.W.Frag) (mg : Str → Option Value) (x q : Str) (st : Stmt) (ps : List Str) : Prop where
  ex : ∃ (f : Addr) (fd : FuncData), mg x = some (.ref f) ∧ Fun K x q st f fd ∧ Binds K fd ps []
structure MAt (K : PySem.W.Frag) (C : Addr) (x q : Str) (st : Stmt) (ps : List Str) : Prop where
  ex : ∃ (f : Addr) (fd : FuncData), Meth K C x f ∧ Fun K x q st f fd ∧ Binds K fd ps []
structure InitF (K : PySem.W.Frag) (C : Addr) (q : Str) (st : Stmt) (ps : List Str) : Prop where
  ex : ∃ (f : Addr) (fd : FuncData), Mk K C f ∧ Fun K "__init__" q st f fd ∧ Binds K fd ps []
structure ClsF (K : PySem.W.Frag) (mg : Str → Option Value) (x : Str) (C : Addr) : Prop where
  mg : mg x = some (.ref C)
  cl : Cls K C
  mks : PySem.W.makesIn K C = true
  kp : PySem.W.keepIn K (.ref C) = true
  ha : PySem.W.findIn K (.ref C) "__class__" = some (some (.builtin "object.__class__"))
  hn : PySem.W.specialIn K (.builtin "object.__class__") "__get__" = some (some (.builtin "getset_descriptor.__get__"))
  ht : PySem.W.takesIn K (.builtin "object.__class__") = some true
  hm : PySem.W.mroIn K C (.type "object") = some true
  ty : PySem.W.typeIn K (.ref C) = some (.type "type")
  ic : PySem.W.isClsIn K C = true
structure ExcF (K : PySem.W.Frag) (mg : Str → Option Value) (x : Str) (C : Addr) : Prop where
  mg : mg x = some (.ref C)
  ex : PySem.W.excIn K C [.type "ValueError", .type "Exception", .type "BaseException", .type "object"] "ValueError.__new__" = true
  kp : PySem.W.keepIn K (.ref C) = true
  be : PySem.W.subIn K (.ref C) (.type "BaseException") = some true
  ty : PySem.W.typeIn K (.ref C) = some (.type "type")
  ic : PySem.W.isClsIn K C = true
structure Md (P : Program) (w : World) (K : PySem.W.Frag) (mg : Str → Option Value) (base : Heap) (C : Addr) (x : Str) (k : Nat) (ps : List Str) (sp : Sp) : Prop where
  ex : ∃ (f : Addr) (fd : FuncData), Meth K C x f ∧ Binds K fd ps [] ∧ FnOk P w K mg base (L2.CX P w) k f fd ps sp
/-! ### promises by the number of the arguments -/
def sp0 (R : Hp → VK → XK → Prop) : Sp := fun vs H Q E => vs = [] ∧ R H Q E
def sp1 (R : V → Hp → VK → XK → Prop) : Sp := fun vs H Q E => ∃ a, vs = [a] ∧ R a H Q E
def sp2 (R : V → V → Hp → VK → XK → Prop) : Sp := fun vs H Q E => ∃ a b, vs = [a, b] ∧ R a b H Q E
def sp3 (R : V → V → V → Hp → VK → XK → Prop) : Sp := fun vs H Q E => ∃ a b c, vs = [a, b, c] ∧ R a b c H Q E
def sp4 (R : V → V → V → V → Hp → VK → XK → Prop) : Sp := fun vs H Q E => ∃ a b c d, vs = [a, b, c, d] ∧ R a b c d H Q E
def sp5 (R : V → V → V → V → V → Hp → VK → XK → Prop) : Sp := fun vs H Q E => ∃ a b c d e, vs = [a, b, c, d, e] ∧ R a b c d e H Q E
def sp6 (R : V → V → V → V → V → V → Hp → VK → XK → Prop) : Sp := fun vs H Q E => ∃ a b c d e f, vs = [a, b, c, d, e, f] ∧ R a b c d e f H Q E
section
variable {vs : List V} {H : Hp} {Q : VK} {E : XK}
theorem sp0_len {R} (h : sp0 R vs H Q E) : vs.length = 0 := by obtain ⟨rfl, _⟩ := h; rfl
theorem sp1_len {R} (h : sp1 R vs H Q E) : vs.length = 1 := by obtain ⟨_, rfl, _⟩ := h; rfl
theorem sp2_len {R} (h : sp2 R vs H Q E) : vs.length = 2 := by obtain ⟨_, _, rfl, _⟩ := h; rfl
theorem sp3_len {R} (h : sp3 R vs H Q E) : vs.length = 3 := by obtain ⟨_, _, _, rfl, _⟩ := h; rfl
theorem sp4_len {R} (h : sp4 R vs H Q E) : vs.length = 4 := by obtain ⟨_, _, _, _, rfl, _⟩ := h; rfl
theorem sp5_len {R} (h : sp5 R vs H Q E) : vs.length = 5 := by obtain ⟨_, _, _, _, _, rfl, _⟩ := h; rfl
theorem sp6_len {R} (h : sp6 R vs H Q E) : vs.length = 6 := by obtain ⟨_, _, _, _, _, _, rfl, _⟩ := h; rfl
end
section
variable {X : Cx} {σ : L2.St} {H : Hp} {Q : VK} {pos p2 p3 p4 apos : Pos} {a e o : Expr} {es : List Expr} {mg : Str → Option Value} {C : Addr}
/-- o.m(e, ..), o.m() of an own class -/
theorem e_meth {m : Str} {k : Nat} {ps : List Str} {sp : Sp} (c : Cls X.K C) (F : Md X.prog X.w X.K X.mg X.base C m k ps sp) (hr : Room k X.A)
    (h : eW X o σ H fun x H1 => ∃ a dx fs, x = .ref a ∧ H1 a = some (.ins C dx fs) ∧ fs.lookup m = none ∧ aW X (e :: es) σ H1 fun vs H2 => sp (x :: vs) H2 Q E0) {pl : Sem Bool}
    (hst : starEach (e :: es) X.env = (false, eval e X.env) :: starEach es X.env := by rfl) (hpl : (backTo pos (starEach es X.env)).any (·.1) = false := by rfl)
    (ht : eval (.Call (.Attribute o m apos) (e :: es) [] pos) X.env = (do
      let ov ← eval o X.env
      standAt apos.atName
      let (f, first) ← holding [ov] (getMethod ov m pl)
      callWith pos f first (backTo pos (starEach (e :: es) X.env)) (backToKw pos (keywordEach [] X.env))) := by rfl) : eW X (.Call (.Attribute o m apos) (e :: es) [] pos) σ H Q := by
  obtain ⟨f, fd, h1, h2, h3⟩ := F.ex
  exact eI (pe_meth (E := E0) PEw c h1 h3 hr h2 .nil passL PAw hst hpl ht) (eMono h fun x H1 ⟨a, dx, fs, q1, q2, q3, q4⟩ => ⟨a, dx, fs, q1, q2, q3, by simpa only [List.append_nil] using q4⟩)
theorem e_meth0 {m : Str} {k : Nat} {ps : List Str} {sp : Sp} (c : Cls X.K C) (F : Md X.prog X.w X.K X.mg X.base C m k ps sp) (hr : Room k X.A)
    (h : eW X o σ H fun x H1 => ∃ a dx fs, x = .ref a ∧ H1 a = some (.ins C dx fs) ∧ fs.lookup m = none ∧ sp [x] H1 Q E0) {pl : Sem Bool}
    (ht : eval (.Call (.Attribute o m apos) [] [] pos) X.env = (do
      let ov ← eval o X.env
      standAt apos.atName
      let (f, first) ← holding [ov] (getMethod ov m pl)
      callWith pos f first (backTo pos (starEach [] X.env)) (backToKw pos (keywordEach [] X.env))) := by rfl) : eW X (.Call (.Attribute o m apos) [] [] pos) σ H Q := by
  obtain ⟨f, fd, h1, h2, h3⟩ := F.ex
  exact eI (pe_meth0 (E := E0) PEw c h1 h3 hr h2 .nil passL ht) h
theorem run_makeO {pins : List (Addr × Obj)} {s : Shared} (hm : PySem.W.makesIn X.K C = true) (hi : PySem.W.findIn X.K (.ref C) "__init__" = some (some (.builtin "object.__init__"))) (I : Inv X pins σ H s)
    (h : ∀ x dx, H x = none → H dx = none → dx ≠ x → Q (.ref x) (upd (upd H dx (.own x)) x (.ins C dx []))) : wpAny (model X.prog X.w) X.A (call (.ref C) []) (EP X pins σ Q) X.xe s := by
  have hq := h (s.heap.objs.size + 1) s.heap.objs.size (I.hok.fresh (Nat.le_succ _)) (I.hok.fresh (Nat.le_refl _)) (Nat.ne_of_lt (Nat.lt_succ_self _))
  have I2 := Inv.made (C := C) I
  have KX := I.kIn
  refine wpAny_call (make_map0 KX hm hi (fun self => PySem.W.Looks.of_pure (PySem.W.oi_bind self)) ?_)
  obtain ⟨hh, g, d, t, os⟩ := s
  have Y := PySem.W.makes_of (M := model X.prog X.w) KX hm
  have t1 : PySem.W.Looks (model X.prog X.w) ((hh.push PySem.W.emptyDict).push (PySem.W.instObj C hh.objs.size)) (typeOf (.ref (hh.objs.size + 1))) (.ref C) := (PySem.W.Looks.ld (by
    have z := Heap.get?_push_size (hh.push PySem.W.emptyDict) (o := PySem.W.instObj C hh.objs.size) rfl
    rw [Heap.size_push] at z
    exact z)).andThen .now
  have t2 : PySem.W.Looks (model X.prog X.w) ((hh.push PySem.W.emptyDict).push (PySem.W.instObj C hh.objs.size)) (isInstance (.ref (hh.objs.size + 1)) (.type "object")) true := t1.andThen (Y.top.keeps fun b o e => Heap.get?_push_of_some _ (Heap.get?_push_of_some _ e))
  refine codeAny_call_builtin PySem.W.oi_plain PySem.W.entry_oi (@PySem.W.check_slot (model X.prog X.w) _ _ _ "object.__init__" "object" "__init__" (.ref (hh.objs.size + 1)) [] [] _ PySem.W.oi_kind PySem.W.oi_split t2 (PySem.W.oi_args (.ref (hh.objs.size + 1))) ?_)
  rw [PySem.W.oi_run]
  exact wpAny_pure ⟨rfl, .ref (hh.objs.size + 1), _, I2, rfl, hq⟩
theorem e_makeO {x : Str} [cm : CxM X mg] [g : Gn mg x (some (.ref C))] (hm : PySem.W.makesIn X.K C = true) (hk : PySem.W.keepIn X.K (.ref C) = true) (hi : PySem.W.findIn X.K (.ref C) "__init__" = some (some (.builtin "object.__init__")))
    (h : ∀ x dx, H x = none → H dx = none → dx ≠ x → Q (.ref x) (upd (upd H dx (.own x)) x (.ins C dx []))) (hg : Gl X x := by rfl) (hdb : (x == ("__debug__" : Str)) = false := by decide) : eW X (.Call (.Name x p2) [] [] pos) σ H Q := ⟨fun pins s I =>
  wpAny_Call_Name_kw (ld_glob I hg (by rw [cm.h]; exact g.h) (PySem.W.callWith_K0 I.kIn hk (run_makeO hm hi I h)) hdb)⟩
end
/-! ### isinstance -/
section
variable {X : Cx} {H : Hp} {Q : VK}
theorem k_isi {x c : V} {t u : Value} {b : Bool} (hc : ClsV c u) (hx : TyX X.K H x t) (e : PySem.W.kitOne X.K t u = some b) (q : Q (.bl b) H) : kW X (.builtin "isinstance") [x, c] H Q := kI call_isi ⟨_, _, _, _, _, rfl, hc, hx, e, q⟩
theorem ClsF.tyX {K : PySem.W.Frag} {mg : Str → Option Value} {x : Str} {C a dx : Addr} {fs : List (Str × V)} (T : ClsF K mg x C) (h : H a = some (.ins C dx fs)) : TyX K H (.ref a) (.ref C) := .base (.ins h T.cl T.ha T.hn T.ht T.hm)
theorem kit_refs {K : PySem.W.Frag} {C D : Addr} {b : Bool} (hs : PySem.W.subIn K (.ref C) (.ref D) = some b) (ic : PySem.W.isClsIn K D = true) (ty : PySem.W.typeIn K (.ref D) = some (.type "type")) (ne : C ≠ D) : PySem.W.kitOne K (.ref C) (.ref D) = some b := by
  have e1 : ((PySem.W.clsIn K D).isSome && PySem.W.typeIn K (.ref D) == some (.type "type")) = true := by
    have h2 : (PySem.W.clsIn K D).isSome = true := ic
    rw [h2, ty]; rfl
  have e2 : (Value.ref C == Value.ref D) = false := by simp [ne]
  show (if (Value.ref C == Value.ref D) = true then some true else if ((PySem.W.clsIn K D).isSome && PySem.W.typeIn K (.ref D) == some (.type "type")) = true then PySem.W.subIn K (.ref C) (.ref D) else none) = some b
  rw [e2, if_neg Bool.false_ne_true, if_pos e1]
  exact hs
theorem kit_self {K : PySem.W.Frag} {C : Addr} : PySem.W.kitOne K (.ref C) (.ref C) = some true := by
  show (if (Value.ref C == Value.ref C) = true then some true else _) = some true
  rw [if_pos (by simp)]
end
/-! ### subscripts, equality of data -/
structure iW (X : Cx) (x y : V) (H : Hp) (Q : VK) : Prop where
  run : ∀ (value slice : Expr) pins s σ v u, Inv X pins σ H s → RelV x v → RelV y u → subscripted slice false v u = operate [v, u] (getItem v u) → wpAny (model X.prog X.w) X.A (subscriptTail value slice v u) (EP X pins σ Q) X.xe s
section
variable {X : Cx} {σ : L2.St} {H : Hp} {Q : VK} {pos p2 p3 : Pos} {a b : Expr} {x y v : V} {p : Addr} {xs : List V} {i : Int}
theorem e_ix (h : eW X a σ H fun x H1 => eW X b σ H1 fun y H2 => iW X x y H2 Q) (hs : PlainIx b := by exact fun _ _ => rfl) : eW X (.Subscript a b pos) σ H Q :=
  eI (pe_ix (r := iW X) (fun value slice pins s σ H x y v u Q I rx ry h hs => h.run value slice pins s σ v u I rx ry hs) PEw PEw hs) h
theorem iI {r : R2} (h : IxR X r) (q : r x y H Q) : iW X x y H Q := ⟨fun value slice pins s σ v u I rx ry hs => h value slice pins s σ H x y v u Q I rx ry q hs⟩
theorem i_lst (h : SqL X.K H p xs) (e : atI xs i = some v) (q : Q v H) : iW X (.ref p) (.int i) H Q := iI ix_list ⟨_, _, _, _, rfl, rfl, h, e, q⟩
theorem i_tup (h : SqT X.K H p xs) (e : atI xs i = some v) (q : Q v H) : iW X (.ref p) (.int i) H Q := iI ix_tup ⟨_, _, _, _, rfl, rfl, h, e, q⟩
theorem i_str {z : Str} {c : Nat} (hz : z.length ≤ sizeLine) (e : atI z.cps.toList i = some c) (q : Q (.str ⟨#[c]⟩) H) : iW X (.str z) (.int i) H Q := iI ix_str ⟨_, _, _, rfl, rfl, hz, e, q⟩
theorem o_eqD {d e : PyData} (hu : X.A.units + 64 < cLine) (hx : Dp X.K H x d) (hy : Dp X.K H y e) (sd : SeqAt.shaped d = true) (se : SeqAt.shaped e = true) (q : Q (.bl (PyData.eqv d e)) H) : oW X (compareOp .Eq) x y H Q := oI (op_eqD hu) ⟨d, e, hx, hy, sd, se, q⟩
theorem o_neD {d e : PyData} (hu : X.A.units + 64 < cLine) (hx : Dp X.K H x d) (hy : Dp X.K H y e) (sd : SeqAt.shaped d = true) (se : SeqAt.shaped e = true) (q : Q (.bl (!PyData.eqv d e)) H) : oW X (compareOp .NotEq) x y H Q := oI (op_neD hu) ⟨d, e, hx, hy, sd, se, q⟩
theorem k_min {j : Int} [cc : CxC X] (q : Q (.int (if j < i then j else i)) H) : kW X (.builtin "min") [.int i, .int j] H Q := kI (call_min2 cc.h) ⟨_, _, rfl, q⟩
theorem k_max {j : Int} [cc : CxC X] (q : Q (.int (if j > i then j else i)) H) : kW X (.builtin "max") [.int i, .int j] H Q := kI (call_max2 cc.h) ⟨_, _, rfl, q⟩
end
theorem atI_nat {α : Type} {xs : List α} {i : Int} {v : α} (h0 : 0 ≤ i) (h : xs[i.toNat]? = some v) : atI xs i = some v := by
  have hl := (List.getElem?_eq_some_iff.mp h).1
  unfold atI ixN
  rw [if_pos h0, if_pos (by omega)]
  exact h
theorem atI_all {α : Type} {xs : List α} {i : Int} {P : α → Prop} (h0 : 0 ≤ i) (h1 : i < xs.length) (hp : ∀ x ∈ xs, P x) : ∃ v, atI xs i = some v ∧ P v := by
  have hl : i.toNat < xs.length := by omega
  exact ⟨xs[i.toNat], atI_nat h0 (List.getElem?_eq_getElem hl), hp _ (List.getElem_mem hl)⟩
theorem TyB {K : PySem.W.Frag} {H : Hp} : (∀ i, TyX K H (.int i) (.type "int")) ∧ (∀ b, TyX K H (.bl b) (.type "bool")) ∧ (∀ z, TyX K H (.str z) (.type "str")) ∧ TyX K H .non (.type "NoneType") := ⟨fun _ => .base (.int _), fun _ => .base (.bl _), fun _ => .base (.str _), .base .non⟩
theorem TyL {K : PySem.W.Frag} {H : Hp} {p : Addr} {xs : List V} (h : H p = some (.lst xs)) : TyX K H (.ref p) (.type "list") := .base (.lst h)
theorem TyT {K : PySem.W.Frag} {H : Hp} {p : Addr} {xs : List V} (h : H p = some (.tup xs)) : TyX K H (.ref p) (.type "tuple") := .base (.tup h)
section
variable {X : Cx} {H : Hp} {Q : VK}
/-- isinstance of a value told by its type's name, of a built-in type -/
theorem k_isB {x : V} {t n : String} {b : Bool} (hx : TyX X.K H x (.type t)) (e : kitB t n = some b) (q : Q (.bl b) H) : kW X (.builtin "isinstance") [x, .ty n] H Q := k_isi (.ty n) hx (kit_ty e) q
end
theorem kb_int_int : kitB "int" "int" = some true := by decide +kernel
theorem kb_int_bool : kitB "int" "bool" = some false := by decide +kernel
theorem kb_bool_int : kitB "bool" "int" = some true := by decide +kernel
theorem kb_bool_bool : kitB "bool" "bool" = some true := by decide +kernel
theorem p60 : (10 : Int) ^ (60 : Int).toNat = 1000000000000000000000000000000000000000000000000000000000000 := by decide
theorem p30 : (10 : Int) ^ (30 : Int).toNat = 1000000000000000000000000000000 := by decide
section
variable {X : Cx} {H : Hp} {Q : VK}
theorem o_p60 (q : Q (.int 1000000000000000000000000000000000000000000000000000000000000) H) : oW X (binaryOp .Pow) (.int 10) (.int 60) H Q := oI op_pow ⟨_, _, rfl, rfl, ⟨by decide, by decide, by decide⟩, by show Q (.int ((10 : Int) ^ (60 : Int).toNat)) H; rw [p60]; exact q⟩
theorem o_p30 (q : Q (.int 1000000000000000000000000000000) H) : oW X (binaryOp .Pow) (.int 10) (.int 30) H Q := oI op_pow ⟨_, _, rfl, rfl, ⟨by decide, by decide, by decide⟩, by show Q (.int ((10 : Int) ^ (30 : Int).toNat)) H; rw [p30]; exact q⟩
end
/-! ### what kind of goal stands here -/
section
variable {X : Cx} {σ : L2.St} {H : Hp} {Q : VK} {D : Ends} {e : Expr} {es : List Expr} {st : Stmt} {b : List Stmt} {R : Bool → Hp → Prop} {U : List V → Hp → Prop} {x y : V} {f : Value → Value → Sem Value} {g : Value} {xs : List V}
theorem is_e (h : eW X e σ H Q) : eW X e σ H Q := h
theorem is_o (h : oW X f x y H Q) : oW X f x y H Q := h
theorem is_k (h : kW X g xs H Q) : kW X g xs H Q := h
theorem is_i (h : iW X x y H Q) : iW X x y H Q := h
theorem is_a (h : aW X es σ H U) : aW X es σ H U := h
theorem is_s (h : sW X st D σ H) : sW X st D σ H := h
theorem is_b (h : bW X b D σ H) : bW X b D σ H := h
theorem is_t (h : tW X e σ H R) : tW X e σ H R := h
theorem is_c (h : cW X e σ H R) : cW X e σ H R := h
theorem is_g {v : V} {q : L2.St → Hp → Prop} (h : gW X e v σ H q) : gW X e v σ H q := h
theorem is_ite {p : Prop} {d : Decidable p} {A B : Prop} (h : @ite Prop p d A B) : @ite Prop p d A B := h
end
/-- a new list, its heap by what is known of it -/
theorem e_lstN {X : Cx} {σ : L2.St} {H : Hp} {Q : VK} {pos : Pos} {es : List Expr} (h : aW X es σ H fun xs H1 => Nat.ble xs.length 1000 = true ∧ ∀ p H2, Same H1 H2 → H1 p = none → H2 p = some (.lst xs) → (∀ b, b ≠ p → H2 b = H1 b) → Q (.ref p) H2) : eW X (.List es pos) σ H Q :=
  e_lst ⟨fun pos pins s I => wpAny_mono (h.run pos pins s I) (fun us s' ⟨vs, H', a, b, c, d⟩ => ⟨vs, H', a, b, Nat.le_trans (Nat.le_of_ble_eq_true c) (by decide), fun p hp => d p _ (fun x o e => by rw [upd_ne (ne_of_none e hp)]; exact e) hp upd_same fun x hx => upd_ne hx⟩) fun _ _ x => x⟩
theorem e_tupN {X : Cx} {σ : L2.St} {H : Hp} {Q : VK} {pos : Pos} {es : List Expr} {k : Nat} (h : aW X es σ H fun xs H1 => Nat.ble xs.length 1000 = true ∧ ∀ p H2, Same H1 H2 → H1 p = none → H2 p = some (.tup xs) → (∀ b, b ≠ p → H2 b = H1 b) → Q (.ref p) H2) : eW X (.Tuple es k pos) σ H Q :=
  e_tup ⟨fun pos pins s I => wpAny_mono (h.run pos pins s I) (fun us s' ⟨vs, H', a, b, c, d⟩ => ⟨vs, H', a, b, Nat.le_trans (Nat.le_of_ble_eq_true c) (by decide), fun p hp => d p _ (fun x o e => by rw [upd_ne (ne_of_none e hp)]; exact e) hp upd_same fun x hx => upd_ne hx⟩) fun _ _ x => x⟩
section
variable {X : Cx} {H : Hp} {Q : VK} {p : Addr} {xs : List V} {z : Str}
theorem k_lenL (h : SqL X.K H p xs) (q : Q (.int (xs.length : Int)) H) : kW X (.builtin "len") [.ref p] H Q := kI call_len_seq ⟨_, _, rfl, .inl h, q⟩
theorem k_lenT (h : SqT X.K H p xs) (q : Q (.int (xs.length : Int)) H) : kW X (.builtin "len") [.ref p] H Q := kI call_len_seq ⟨_, _, rfl, .inr h, q⟩
theorem k_lenS (h : z.length ≤ sizeLine) (q : Q (.int (z.length : Int)) H) : kW X (.builtin "len") [.str z] H Q := kI call_len_str ⟨_, rfl, h, q⟩
end
theorem Same.made' {H : Hp} {x dx C : Addr} (nx : H x = Option.none) (nd : H dx = Option.none) : Same H (upd (upd H dx (.own x)) x (.ins C dx [])) := fun b o e => by
  rw [upd_ne (ne_of_none e nx), upd_ne (ne_of_none e nd)]
  exact e
def R_law (K : PySem.W.Frag) : V → Hp → VK → XK → Prop := fun x H Q _ => ∃ (a : Addr) (ns : List Int), x = .ref a ∧ SqL K H a (ns.map V.int) ∧ ns.length ≤ 63 ∧ ∀ H', Q (.bl true) H'
end G

namespace Lw
open PySem PySem.Spec PyProof.Rows L2 G
local macro_rules | `(tactic| walk_at "o") => `(tactic| (refine is_o ?_; first
  | refine o_add ?_ | refine o_sub ?_ | refine o_mod (by decide) ?_ | refine o_div ⟨by decide, by decide⟩ ?_ | refine o_eqI ?_ | refine o_neI ?_ | refine o_eqS ?_ | refine o_neS ?_ | refine o_lt ?_ | refine o_le ?_ | refine o_gt ?_ | refine o_ge ?_
  | refine o_p60 ?_ | refine o_p30 ?_ | refine o_pow ⟨by decide, by decide, by decide⟩ ?_ | refine o_eqB ?_ | refine o_neB ?_))
local macro_rules | `(tactic| walk_at "e") => `(tactic| (refine is_e ?_; first
  | refine e_var rfl ?_ | refine e_int ?_ | refine e_str ?_ | refine e_bl ?_ | refine e_non ?_
  | refine e_bin ?_ | refine e_ix ?_ | refine e_isN ?_ | refine e_notN ?_ | refine e_cmp ?_ | refine e_callB ?_ | refine e_callTy ?_ | refine e_globR ?_ | refine e_globI ?_ | refine e_ty ?_ | refine e_chain ?_ | refine e_un (u_neg ?_) | refine e_not ?_ | refine e_one ?_ | refine e_ifE ?_ | refine e_tupN ?_ | refine e_lstN ?_))
local macro_rules | `(tactic| walk_at "s") => `(tactic| (refine is_s ?_; first
  | refine s_set ?_ | refine s_if ?_ | refine s_ret ?_ | refine s_expr ?_ | refine s_retN ?_ | refine s_brk ?_ | refine s_cont ?_ | refine s_pass ?_))
local macro_rules | `(tactic| walk_at "t") => `(tactic| (refine is_t ?_; first
  | refine t_isN ?_ | refine t_notN ?_ | refine t_cmp ?_ | refine t_not ?_ | refine t_and ?_ | refine t_or ?_ | refine t_val ?_))
local macro_rules | `(tactic| walk_at "w1") => `(tactic| first
  | walk_at "e" | walk_at "o" | (refine is_a ?_; first | refine a_cons ?_ | refine a_nil ?_) | (refine is_b ?_; first | refine b_cons ?_ | refine b_nil ?_) | walk_at "s" | walk_at "t" | (refine is_c ?_; first | refine c_and1 ?_ | refine c_or1 ?_ | refine c_and ?_ | refine c_or ?_) | (refine is_g ?_; refine g_name ?_) | (refine is_ite ?_; first | refine iteT ?_ | refine iteF ?_)
  | (refine is_k ?_; first | refine k_min ?_ | refine k_max ?_)
  | refine ⟨_, rfl, ?_⟩ | refine ⟨_, _, rfl, ?_⟩ | refine ⟨_, _, _, rfl, ?_⟩ | refine ⟨_, _, rfl, rfl, ?_⟩)
local macro_rules | `(tactic| walk_at "w") => `(tactic| repeat walk_at "w1")

def top (i : Nat) : Stmt := PySem.Challenge.pw_forestread_k40_many.main.body.getD i (.Pass ⟨0, 0, 0, 0⟩)
abbrev s_Tally_nothing : Stmt := inClass (top 2) 0
theorem sc_Tally_nothing : FnScope ["self"] ["self"] (defScope s_Tally_nothing) := ⟨rfl, rfl, rfl, by decide +kernel, rfl, by decide +kernel, by decide +kernel⟩
instance : NdN ["self"] := ⟨sc_Tally_nothing.nd⟩
abbrev X_Tally_nothing (P : Program) (w : World) (K : PySem.W.Frag) (mg : Str → Option Value) (base : Heap) (f : Addr) (cdv : Value) (A : Around) (outer : List Env) (s : Shared) (H : Hp) (E : XK) : Cx := cxr P w K mg base ["self"] "Tally.nothing" s_Tally_nothing f cdv A outer s H E
abbrev s_Tally_blank : Stmt := inClass (top 2) 1
theorem sc_Tally_blank : FnScope ["self"] ["self"] (defScope s_Tally_blank) := ⟨rfl, rfl, rfl, by decide +kernel, rfl, by decide +kernel, by decide +kernel⟩
instance : NdN ["self"] := ⟨sc_Tally_blank.nd⟩
abbrev X_Tally_blank (P : Program) (w : World) (K : PySem.W.Frag) (mg : Str → Option Value) (base : Heap) (f : Addr) (cdv : Value) (A : Around) (outer : List Env) (s : Shared) (H : Hp) (E : XK) : Cx := cxr P w K mg base ["self"] "Tally.blank" s_Tally_blank f cdv A outer s H E
abbrev s_Tally_of_rule : Stmt := inClass (top 2) 2
theorem sc_Tally_of_rule : FnScope ["self", "number", "worth"] ["self", "number", "worth"] (defScope s_Tally_of_rule) := ⟨rfl, rfl, rfl, by decide +kernel, rfl, by decide +kernel, by decide +kernel⟩
instance : NdN ["self", "number", "worth"] := ⟨sc_Tally_of_rule.nd⟩
abbrev X_Tally_of_rule (P : Program) (w : World) (K : PySem.W.Frag) (mg : Str → Option Value) (base : Heap) (f : Addr) (cdv : Value) (A : Around) (outer : List Env) (s : Shared) (H : Hp) (E : XK) : Cx := cxr P w K mg base ["self", "number", "worth"] "Tally.of_rule" s_Tally_of_rule f cdv A outer s H E
abbrev s_Tally_either : Stmt := inClass (top 2) 3
theorem sc_Tally_either : FnScope ["self", "one", "other"] ["self", "one", "other"] (defScope s_Tally_either) := ⟨rfl, rfl, rfl, by decide +kernel, rfl, by decide +kernel, by decide +kernel⟩
instance : NdN ["self", "one", "other"] := ⟨sc_Tally_either.nd⟩
abbrev X_Tally_either (P : Program) (w : World) (K : PySem.W.Frag) (mg : Str → Option Value) (base : Heap) (f : Addr) (cdv : Value) (A : Around) (outer : List Env) (s : Shared) (H : Hp) (E : XK) : Cx := cxr P w K mg base ["self", "one", "other"] "Tally.either" s_Tally_either f cdv A outer s H E
abbrev s_Tally_both : Stmt := inClass (top 2) 4
theorem sc_Tally_both : FnScope ["self", "one", "other"] ["self", "one", "other"] (defScope s_Tally_both) := ⟨rfl, rfl, rfl, by decide +kernel, rfl, by decide +kernel, by decide +kernel⟩
instance : NdN ["self", "one", "other"] := ⟨sc_Tally_both.nd⟩
abbrev X_Tally_both (P : Program) (w : World) (K : PySem.W.Frag) (mg : Str → Option Value) (base : Heap) (f : Addr) (cdv : Value) (A : Around) (outer : List Env) (s : Shared) (H : Hp) (E : XK) : Cx := cxr P w K mg base ["self", "one", "other"] "Tally.both" s_Tally_both f cdv A outer s H E
abbrev s_Many_nothing : Stmt := inClass (top 3) 0
theorem sc_Many_nothing : FnScope ["self"] ["self"] (defScope s_Many_nothing) := ⟨rfl, rfl, rfl, by decide +kernel, rfl, by decide +kernel, by decide +kernel⟩
instance : NdN ["self"] := ⟨sc_Many_nothing.nd⟩
abbrev X_Many_nothing (P : Program) (w : World) (K : PySem.W.Frag) (mg : Str → Option Value) (base : Heap) (f : Addr) (cdv : Value) (A : Around) (outer : List Env) (s : Shared) (H : Hp) (E : XK) : Cx := cxr P w K mg base ["self"] "Many.nothing" s_Many_nothing f cdv A outer s H E
abbrev s_Many_blank : Stmt := inClass (top 3) 1
theorem sc_Many_blank : FnScope ["self"] ["self"] (defScope s_Many_blank) := ⟨rfl, rfl, rfl, by decide +kernel, rfl, by decide +kernel, by decide +kernel⟩
instance : NdN ["self"] := ⟨sc_Many_blank.nd⟩
abbrev X_Many_blank (P : Program) (w : World) (K : PySem.W.Frag) (mg : Str → Option Value) (base : Heap) (f : Addr) (cdv : Value) (A : Around) (outer : List Env) (s : Shared) (H : Hp) (E : XK) : Cx := cxr P w K mg base ["self"] "Many.blank" s_Many_blank f cdv A outer s H E
abbrev s_Many_of_rule : Stmt := inClass (top 3) 2
theorem sc_Many_of_rule : FnScope ["self", "number", "worth"] ["self", "number", "worth"] (defScope s_Many_of_rule) := ⟨rfl, rfl, rfl, by decide +kernel, rfl, by decide +kernel, by decide +kernel⟩
instance : NdN ["self", "number", "worth"] := ⟨sc_Many_of_rule.nd⟩
abbrev X_Many_of_rule (P : Program) (w : World) (K : PySem.W.Frag) (mg : Str → Option Value) (base : Heap) (f : Addr) (cdv : Value) (A : Around) (outer : List Env) (s : Shared) (H : Hp) (E : XK) : Cx := cxr P w K mg base ["self", "number", "worth"] "Many.of_rule" s_Many_of_rule f cdv A outer s H E
abbrev s_Many_either : Stmt := inClass (top 3) 3
theorem sc_Many_either : FnScope ["self", "one", "other"] ["self", "one", "other"] (defScope s_Many_either) := ⟨rfl, rfl, rfl, by decide +kernel, rfl, by decide +kernel, by decide +kernel⟩
instance : NdN ["self", "one", "other"] := ⟨sc_Many_either.nd⟩
abbrev X_Many_either (P : Program) (w : World) (K : PySem.W.Frag) (mg : Str → Option Value) (base : Heap) (f : Addr) (cdv : Value) (A : Around) (outer : List Env) (s : Shared) (H : Hp) (E : XK) : Cx := cxr P w K mg base ["self", "one", "other"] "Many.either" s_Many_either f cdv A outer s H E
abbrev s_Many_both : Stmt := inClass (top 3) 4
theorem sc_Many_both : FnScope ["self", "one", "other"] ["self", "one", "other"] (defScope s_Many_both) := ⟨rfl, rfl, rfl, by decide +kernel, rfl, by decide +kernel, by decide +kernel⟩
instance : NdN ["self", "one", "other"] := ⟨sc_Many_both.nd⟩
abbrev X_Many_both (P : Program) (w : World) (K : PySem.W.Frag) (mg : Str → Option Value) (base : Heap) (f : Addr) (cdv : Value) (A : Around) (outer : List Env) (s : Shared) (H : Hp) (E : XK) : Cx := cxr P w K mg base ["self", "one", "other"] "Many.both" s_Many_both f cdv A outer s H E
abbrev s_law_number : Stmt := top 5
theorem sc_law_number : FnScope ["_law_cell", "_law_way"] ["_law_cell"] (defScope s_law_number) := ⟨rfl, rfl, rfl, by decide +kernel, rfl, by decide +kernel, by decide +kernel⟩
instance : NdN ["_law_cell", "_law_way"] := ⟨sc_law_number.nd⟩
abbrev X_law_number (P : Program) (w : World) (K : PySem.W.Frag) (mg : Str → Option Value) (base : Heap) (f : Addr) (cdv : Value) (A : Around) (outer : List Env) (s : Shared) (H : Hp) (E : XK) : Cx := cxr P w K mg base ["_law_cell", "_law_way"] "_law_number" s_law_number f cdv A outer s H E
abbrev s_law_whole : Stmt := top 6
theorem sc_law_whole : FnScope ["_law_found"] ["_law_found"] (defScope s_law_whole) := ⟨rfl, rfl, rfl, by decide +kernel, rfl, by decide +kernel, by decide +kernel⟩
instance : NdN ["_law_found"] := ⟨sc_law_whole.nd⟩
abbrev X_law_whole (P : Program) (w : World) (K : PySem.W.Frag) (mg : Str → Option Value) (base : Heap) (f : Addr) (cdv : Value) (A : Around) (outer : List Env) (s : Shared) (H : Hp) (E : XK) : Cx := cxr P w K mg base ["_law_found"] "_law_whole" s_law_whole f cdv A outer s H E
abbrev s_law_cut : Stmt := top 7
theorem sc_law_cut : FnScope ["_law_number_here"] ["_law_number_here"] (defScope s_law_cut) := ⟨rfl, rfl, rfl, by decide +kernel, rfl, by decide +kernel, by decide +kernel⟩
instance : NdN ["_law_number_here"] := ⟨sc_law_cut.nd⟩
abbrev X_law_cut (P : Program) (w : World) (K : PySem.W.Frag) (mg : Str → Option Value) (base : Heap) (f : Addr) (cdv : Value) (A : Around) (outer : List Env) (s : Shared) (H : Hp) (E : XK) : Cx := cxr P w K mg base ["_law_number_here"] "_law_cut" s_law_cut f cdv A outer s H E
abbrev s_law_sums : Stmt := top 8
theorem sc_law_sums : FnScope ["_law_many", "_law_one", "_law_other", "_law_found", "_law_product"] ["_law_many", "_law_one", "_law_other"] (defScope s_law_sums) := ⟨rfl, rfl, rfl, by decide +kernel, rfl, by decide +kernel, by decide +kernel⟩
instance : NdN ["_law_many", "_law_one", "_law_other", "_law_found", "_law_product"] := ⟨sc_law_sums.nd⟩
abbrev X_law_sums (P : Program) (w : World) (K : PySem.W.Frag) (mg : Str → Option Value) (base : Heap) (f : Addr) (cdv : Value) (A : Around) (outer : List Env) (s : Shared) (H : Hp) (E : XK) : Cx := cxr P w K mg base ["_law_many", "_law_one", "_law_other", "_law_found", "_law_product"] "_law_sums" s_law_sums f cdv A outer s H E
abbrev s_law_spread : Stmt := top 9
theorem sc_law_spread : FnScope ["_law_many", "_law_one", "_law_two", "_law_three"] ["_law_many", "_law_one", "_law_two", "_law_three"] (defScope s_law_spread) := ⟨rfl, rfl, rfl, by decide +kernel, rfl, by decide +kernel, by decide +kernel⟩
instance : NdN ["_law_many", "_law_one", "_law_two", "_law_three"] := ⟨sc_law_spread.nd⟩
abbrev X_law_spread (P : Program) (w : World) (K : PySem.W.Frag) (mg : Str → Option Value) (base : Heap) (f : Addr) (cdv : Value) (A : Around) (outer : List Env) (s : Shared) (H : Hp) (E : XK) : Cx := cxr P w K mg base ["_law_many", "_law_one", "_law_two", "_law_three"] "_law_spread" s_law_spread f cdv A outer s H E
abbrev s_law_truths : Stmt := top 10
theorem sc_law_truths : FnScope ["_law_tally", "_law_one", "_law_other", "_law_found", "_law_truth"] ["_law_tally", "_law_one", "_law_other"] (defScope s_law_truths) := ⟨rfl, rfl, rfl, by decide +kernel, rfl, by decide +kernel, by decide +kernel⟩
instance : NdN ["_law_tally", "_law_one", "_law_other", "_law_found", "_law_truth"] := ⟨sc_law_truths.nd⟩
abbrev X_law_truths (P : Program) (w : World) (K : PySem.W.Frag) (mg : Str → Option Value) (base : Heap) (f : Addr) (cdv : Value) (A : Around) (outer : List Env) (s : Shared) (H : Hp) (E : XK) : Cx := cxr P w K mg base ["_law_tally", "_law_one", "_law_other", "_law_found", "_law_truth"] "_law_truths" s_law_truths f cdv A outer s H E
abbrev s_law_begun : Stmt := top 11
theorem sc_law_begun : FnScope ["_law_many", "_law_tally", "_law_cell", "_law_found", "_law_number_here", "_law_truths_here", "_law_truth"] ["_law_many", "_law_tally", "_law_cell"] (defScope s_law_begun) := ⟨rfl, rfl, rfl, by decide +kernel, rfl, by decide +kernel, by decide +kernel⟩
instance : NdN ["_law_many", "_law_tally", "_law_cell", "_law_found", "_law_number_here", "_law_truths_here", "_law_truth"] := ⟨sc_law_begun.nd⟩
abbrev X_law_begun (P : Program) (w : World) (K : PySem.W.Frag) (mg : Str → Option Value) (base : Heap) (f : Addr) (cdv : Value) (A : Around) (outer : List Env) (s : Shared) (H : Hp) (E : XK) : Cx := cxr P w K mg base ["_law_many", "_law_tally", "_law_cell", "_law_found", "_law_number_here", "_law_truths_here", "_law_truth"] "_law_begun" s_law_begun f cdv A outer s H E
abbrev s_law : Stmt := top 12
theorem sc_law : FnScope ["_law_script", "_law_many", "_law_tally", "_law_held", "_law_last", "_law_truth", "_law_cell", "_law_number_here", "_law_one"] ["_law_script"] (defScope s_law) := ⟨rfl, rfl, rfl, by decide +kernel, rfl, by decide +kernel, by decide +kernel⟩
instance : NdN ["_law_script", "_law_many", "_law_tally", "_law_held", "_law_last", "_law_truth", "_law_cell", "_law_number_here", "_law_one"] := ⟨sc_law.nd⟩
abbrev X_law (P : Program) (w : World) (K : PySem.W.Frag) (mg : Str → Option Value) (base : Heap) (f : Addr) (cdv : Value) (A : Around) (outer : List Env) (s : Shared) (H : Hp) (E : XK) : Cx := cxr P w K mg base ["_law_script", "_law_many", "_law_tally", "_law_held", "_law_last", "_law_truth", "_law_cell", "_law_number_here", "_law_one"] "law" s_law f cdv A outer s H E
structure Cs where
  z : Addr := 0
  Tally : Addr
  Many : Addr
structure Txt (K : PySem.W.Frag) (mg : Str → Option Value) (cs : Cs) : Prop where
  b_bool : Gn mg "bool" none
  b_int : Gn mg "int" none
  b_isinstance : Gn mg "isinstance" none
  b_len : Gn mg "len" none
  b_min : Gn mg "min" none
  k_MOST_ROWS : ∃ t, mg "MOST_ROWS" = some (.int (1000000000000000000000000000000000000000000000000000000000000) t)
  c_Tally : ClsF K mg "Tally" cs.Tally
  i_Tally : PySem.W.findIn K (.ref cs.Tally) "__init__" = some (some (.builtin "object.__init__"))
  m_Tally_nothing : MAt K cs.Tally "nothing" "Tally.nothing" s_Tally_nothing ["self"]
  m_Tally_blank : MAt K cs.Tally "blank" "Tally.blank" s_Tally_blank ["self"]
  m_Tally_of_rule : MAt K cs.Tally "of_rule" "Tally.of_rule" s_Tally_of_rule ["self", "number", "worth"]
  m_Tally_either : MAt K cs.Tally "either" "Tally.either" s_Tally_either ["self", "one", "other"]
  m_Tally_both : MAt K cs.Tally "both" "Tally.both" s_Tally_both ["self", "one", "other"]
  c_Many : ClsF K mg "Many" cs.Many
  i_Many : PySem.W.findIn K (.ref cs.Many) "__init__" = some (some (.builtin "object.__init__"))
  m_Many_nothing : MAt K cs.Many "nothing" "Many.nothing" s_Many_nothing ["self"]
  m_Many_blank : MAt K cs.Many "blank" "Many.blank" s_Many_blank ["self"]
  m_Many_of_rule : MAt K cs.Many "of_rule" "Many.of_rule" s_Many_of_rule ["self", "number", "worth"]
  m_Many_either : MAt K cs.Many "either" "Many.either" s_Many_either ["self", "one", "other"]
  m_Many_both : MAt K cs.Many "both" "Many.both" s_Many_both ["self", "one", "other"]
  s_Tally_Many : PySem.W.subIn K (.ref cs.Tally) (.ref cs.Many) = some false
  s_Many_Tally : PySem.W.subIn K (.ref cs.Many) (.ref cs.Tally) = some true
  f_law_number : At K mg "_law_number" "_law_number" s_law_number ["_law_cell"]
  f_law_whole : At K mg "_law_whole" "_law_whole" s_law_whole ["_law_found"]
  f_law_cut : At K mg "_law_cut" "_law_cut" s_law_cut ["_law_number_here"]
  f_law_sums : At K mg "_law_sums" "_law_sums" s_law_sums ["_law_many", "_law_one", "_law_other"]
  f_law_spread : At K mg "_law_spread" "_law_spread" s_law_spread ["_law_many", "_law_one", "_law_two", "_law_three"]
  f_law_truths : At K mg "_law_truths" "_law_truths" s_law_truths ["_law_tally", "_law_one", "_law_other"]
  f_law_begun : At K mg "_law_begun" "_law_begun" s_law_begun ["_law_many", "_law_tally", "_law_cell"]
section
variable {P : Program} {w : World} {K : PySem.W.Frag} {mg : Str → Option Value} {base : Heap} {cs : Cs}
/-- what 10 ** 60 is worth -/
def top60 : Int := 1000000000000000000000000000000000000000000000000000000000000
def cut60 (n : Int) : Int := if n > top60 then top60 else n
def R_Many_nothing : V → Hp → VK → XK → Prop := fun _ H Q _ => Q (.int 0) H
theorem ok_Many_nothing {f : Addr} {fd : FuncData} (F : Fun K "nothing" "Many.nothing" s_Many_nothing f fd) (T : Txt K mg cs) : FnOk P w K mg base (L2.CX P w) 1 f fd ["self"] (sp1 (R_Many_nothing)) := by
  refine F.okX sc_Many_nothing (fun vs H Q E h => sp1_len h) (fun cdv A outer s H vs Q E hr h => ⟨_, PBw (X := X_Many_nothing P w K mg base f cdv A outer s H E), ?_⟩)
  obtain ⟨a0, rfl, h⟩ := h
  have hr' : Room 0 (X_Many_nothing P w K mg base f cdv A outer s H E).A := hr
  replace hr := hr'
  clear hr'
  walk_at "w"; exact h
theorem md_Many_nothing (T : Txt K mg cs) : Md P w K mg base cs.Many "nothing" 1 ["self"] (sp1 (R_Many_nothing)) := by
  obtain ⟨f, fd, hm, F, hb⟩ := T.m_Many_nothing.ex
  exact ⟨f, fd, hm, hb, ok_Many_nothing F T⟩
def R_Many_blank : V → Hp → VK → XK → Prop := fun _ H Q _ => Q (.int 1) H
theorem ok_Many_blank {f : Addr} {fd : FuncData} (F : Fun K "blank" "Many.blank" s_Many_blank f fd) (T : Txt K mg cs) : FnOk P w K mg base (L2.CX P w) 1 f fd ["self"] (sp1 (R_Many_blank)) := by
  refine F.okX sc_Many_blank (fun vs H Q E h => sp1_len h) (fun cdv A outer s H vs Q E hr h => ⟨_, PBw (X := X_Many_blank P w K mg base f cdv A outer s H E), ?_⟩)
  obtain ⟨a0, rfl, h⟩ := h
  have hr' : Room 0 (X_Many_blank P w K mg base f cdv A outer s H E).A := hr
  replace hr := hr'
  clear hr'
  walk_at "w"; exact h
theorem md_Many_blank (T : Txt K mg cs) : Md P w K mg base cs.Many "blank" 1 ["self"] (sp1 (R_Many_blank)) := by
  obtain ⟨f, fd, hm, F, hb⟩ := T.m_Many_blank.ex
  exact ⟨f, fd, hm, hb, ok_Many_blank F T⟩
def R_Many_of_rule : V → V → V → Hp → VK → XK → Prop := fun _ _ _ H Q _ => Q (.int 1) H
theorem ok_Many_of_rule {f : Addr} {fd : FuncData} (F : Fun K "of_rule" "Many.of_rule" s_Many_of_rule f fd) (T : Txt K mg cs) : FnOk P w K mg base (L2.CX P w) 1 f fd ["self", "number", "worth"] (sp3 (R_Many_of_rule)) := by
  refine F.okX sc_Many_of_rule (fun vs H Q E h => sp3_len h) (fun cdv A outer s H vs Q E hr h => ⟨_, PBw (X := X_Many_of_rule P w K mg base f cdv A outer s H E), ?_⟩)
  obtain ⟨a0, a1, a2, rfl, h⟩ := h
  have hr' : Room 0 (X_Many_of_rule P w K mg base f cdv A outer s H E).A := hr
  replace hr := hr'
  clear hr'
  walk_at "w"; exact h
theorem md_Many_of_rule (T : Txt K mg cs) : Md P w K mg base cs.Many "of_rule" 1 ["self", "number", "worth"] (sp3 (R_Many_of_rule)) := by
  obtain ⟨f, fd, hm, F, hb⟩ := T.m_Many_of_rule.ex
  exact ⟨f, fd, hm, hb, ok_Many_of_rule F T⟩
def R_Tally_nothing : V → Hp → VK → XK → Prop := fun _ H Q _ => Q (.bl false) H
theorem ok_Tally_nothing {f : Addr} {fd : FuncData} (F : Fun K "nothing" "Tally.nothing" s_Tally_nothing f fd) (T : Txt K mg cs) : FnOk P w K mg base (L2.CX P w) 1 f fd ["self"] (sp1 (R_Tally_nothing)) := by
  refine F.okX sc_Tally_nothing (fun vs H Q E h => sp1_len h) (fun cdv A outer s H vs Q E hr h => ⟨_, PBw (X := X_Tally_nothing P w K mg base f cdv A outer s H E), ?_⟩)
  obtain ⟨a0, rfl, h⟩ := h
  have hr' : Room 0 (X_Tally_nothing P w K mg base f cdv A outer s H E).A := hr
  replace hr := hr'
  clear hr'
  walk_at "w"; exact h
theorem md_Tally_nothing (T : Txt K mg cs) : Md P w K mg base cs.Tally "nothing" 1 ["self"] (sp1 (R_Tally_nothing)) := by
  obtain ⟨f, fd, hm, F, hb⟩ := T.m_Tally_nothing.ex
  exact ⟨f, fd, hm, hb, ok_Tally_nothing F T⟩
def R_Tally_blank : V → Hp → VK → XK → Prop := fun _ H Q _ => Q (.bl true) H
theorem ok_Tally_blank {f : Addr} {fd : FuncData} (F : Fun K "blank" "Tally.blank" s_Tally_blank f fd) (T : Txt K mg cs) : FnOk P w K mg base (L2.CX P w) 1 f fd ["self"] (sp1 (R_Tally_blank)) := by
  refine F.okX sc_Tally_blank (fun vs H Q E h => sp1_len h) (fun cdv A outer s H vs Q E hr h => ⟨_, PBw (X := X_Tally_blank P w K mg base f cdv A outer s H E), ?_⟩)
  obtain ⟨a0, rfl, h⟩ := h
  have hr' : Room 0 (X_Tally_blank P w K mg base f cdv A outer s H E).A := hr
  replace hr := hr'
  clear hr'
  walk_at "w"; exact h
theorem md_Tally_blank (T : Txt K mg cs) : Md P w K mg base cs.Tally "blank" 1 ["self"] (sp1 (R_Tally_blank)) := by
  obtain ⟨f, fd, hm, F, hb⟩ := T.m_Tally_blank.ex
  exact ⟨f, fd, hm, hb, ok_Tally_blank F T⟩
def R_Tally_of_rule : V → V → V → Hp → VK → XK → Prop := fun _ _ _ H Q _ => Q (.bl true) H
theorem ok_Tally_of_rule {f : Addr} {fd : FuncData} (F : Fun K "of_rule" "Tally.of_rule" s_Tally_of_rule f fd) (T : Txt K mg cs) : FnOk P w K mg base (L2.CX P w) 1 f fd ["self", "number", "worth"] (sp3 (R_Tally_of_rule)) := by
  refine F.okX sc_Tally_of_rule (fun vs H Q E h => sp3_len h) (fun cdv A outer s H vs Q E hr h => ⟨_, PBw (X := X_Tally_of_rule P w K mg base f cdv A outer s H E), ?_⟩)
  obtain ⟨a0, a1, a2, rfl, h⟩ := h
  have hr' : Room 0 (X_Tally_of_rule P w K mg base f cdv A outer s H E).A := hr
  replace hr := hr'
  clear hr'
  walk_at "w"; exact h
theorem md_Tally_of_rule (T : Txt K mg cs) : Md P w K mg base cs.Tally "of_rule" 1 ["self", "number", "worth"] (sp3 (R_Tally_of_rule)) := by
  obtain ⟨f, fd, hm, F, hb⟩ := T.m_Tally_of_rule.ex
  exact ⟨f, fd, hm, hb, ok_Tally_of_rule F T⟩
def R_Tally_either : V → V → V → Hp → VK → XK → Prop := fun _ x y H Q _ => ∃ a b, x = .bl a ∧ y = .bl b ∧ Q (.bl (a || b)) H
theorem ok_Tally_either {f : Addr} {fd : FuncData} (F : Fun K "either" "Tally.either" s_Tally_either f fd) (T : Txt K mg cs) : FnOk P w K mg base (L2.CX P w) 1 f fd ["self", "one", "other"] (sp3 (R_Tally_either)) := by
  refine F.okX sc_Tally_either (fun vs H Q E h => sp3_len h) (fun cdv A outer s H vs Q E hr h => ⟨_, PBw (X := X_Tally_either P w K mg base f cdv A outer s H E), ?_⟩)
  obtain ⟨a0, a1, a2, rfl, h⟩ := h
  have hr' : Room 0 (X_Tally_either P w K mg base f cdv A outer s H E).A := hr
  replace hr := hr'
  clear hr'
  obtain ⟨a, b, rfl, rfl, h⟩ := h
  walk_at "w"
  refine e_orJ (d := b) ?_
  refine e_var rfl ⟨_, rfl, fun _ Q' q => ?_, h⟩
  walk_at "w"; exact q
theorem md_Tally_either (T : Txt K mg cs) : Md P w K mg base cs.Tally "either" 1 ["self", "one", "other"] (sp3 (R_Tally_either)) := by
  obtain ⟨f, fd, hm, F, hb⟩ := T.m_Tally_either.ex
  exact ⟨f, fd, hm, hb, ok_Tally_either F T⟩
def R_Tally_both : V → V → V → Hp → VK → XK → Prop := fun _ x y H Q _ => ∃ a b, x = .bl a ∧ y = .bl b ∧ Q (.bl (a && b)) H
theorem ok_Tally_both {f : Addr} {fd : FuncData} (F : Fun K "both" "Tally.both" s_Tally_both f fd) (T : Txt K mg cs) : FnOk P w K mg base (L2.CX P w) 1 f fd ["self", "one", "other"] (sp3 (R_Tally_both)) := by
  refine F.okX sc_Tally_both (fun vs H Q E h => sp3_len h) (fun cdv A outer s H vs Q E hr h => ⟨_, PBw (X := X_Tally_both P w K mg base f cdv A outer s H E), ?_⟩)
  obtain ⟨a0, a1, a2, rfl, h⟩ := h
  have hr' : Room 0 (X_Tally_both P w K mg base f cdv A outer s H E).A := hr
  replace hr := hr'
  clear hr'
  obtain ⟨a, b, rfl, rfl, h⟩ := h
  walk_at "w"
  refine e_andJ (d := b) ?_
  refine e_var rfl ⟨_, rfl, fun _ Q' q => ?_, h⟩
  walk_at "w"; exact q
theorem md_Tally_both (T : Txt K mg cs) : Md P w K mg base cs.Tally "both" 1 ["self", "one", "other"] (sp3 (R_Tally_both)) := by
  obtain ⟨f, fd, hm, F, hb⟩ := T.m_Tally_both.ex
  exact ⟨f, fd, hm, hb, ok_Tally_both F T⟩
def R_Many_either : V → V → V → Hp → VK → XK → Prop := fun _ x y H Q _ => ∃ i j, x = .int i ∧ y = .int j ∧ Q (.int (cut60 (i + j))) H
theorem ok_Many_either {f : Addr} {fd : FuncData} (F : Fun K "either" "Many.either" s_Many_either f fd) (T : Txt K mg cs) : FnOk P w K mg base (L2.CX P w) 1 f fd ["self", "one", "other"] (sp3 (R_Many_either)) := by
  refine F.okX sc_Many_either (fun vs H Q E h => sp3_len h) (fun cdv A outer s H vs Q E hr h => ⟨_, PBw (X := X_Many_either P w K mg base f cdv A outer s H E), ?_⟩)
  obtain ⟨a0, a1, a2, rfl, h⟩ := h
  have i_min := T.b_min
  obtain ⟨t_MOST_ROWS, h_MOST_ROWS⟩ := T.k_MOST_ROWS
  have i_MOST_ROWS : Gn mg "MOST_ROWS" (some _) := ⟨h_MOST_ROWS⟩
  have hr' : Room 0 (X_Many_either P w K mg base f cdv A outer s H E).A := hr
  replace hr := hr'
  clear hr'
  obtain ⟨i, j, rfl, rfl, h⟩ := h
  walk_at "w"
  exact h
theorem md_Many_either (T : Txt K mg cs) : Md P w K mg base cs.Many "either" 1 ["self", "one", "other"] (sp3 (R_Many_either)) := by
  obtain ⟨f, fd, hm, F, hb⟩ := T.m_Many_either.ex
  exact ⟨f, fd, hm, hb, ok_Many_either F T⟩
theorem sz60 {i : Int} (h : 0 ≤ i ∧ i ≤ top60) : i.natAbs < 2 ^ 200 := by
  have e : top60 < 2 ^ 200 := by decide
  omega
theorem mul60 {i j : Int} (hi : 0 ≤ i ∧ i ≤ top60) (hj : 0 ≤ j ∧ j ≤ top60) : CMulW i j := wide_mul (sz60 hi) (sz60 hj) (by decide) (by decide) (by decide)
theorem cut60_in {n : Int} (h : 0 ≤ n) : 0 ≤ cut60 n ∧ cut60 n ≤ top60 := by
  have e : (0 : Int) ≤ top60 := by decide
  unfold cut60
  split <;> omega
theorem mul_nn {i j : Int} (hi : 0 ≤ i ∧ i ≤ top60) (hj : 0 ≤ j ∧ j ≤ top60) : 0 ≤ i * j := Int.mul_nonneg hi.1 hj.1
abbrev In60 (i : Int) : Prop := 0 ≤ i ∧ i ≤ top60
/-- the one law of numbers: products go over sums, both cut off -/
theorem spread60 {a b c : Int} (ha : In60 a) (hb : In60 b) (hc : In60 c) : cut60 (a * cut60 (b + c)) = cut60 (cut60 (a * b) + cut60 (a * c)) := by
  have hab := mul_nn ha hb
  have hac := mul_nn ha hc
  have e : (1 : Int) ≤ top60 := by decide
  by_cases h0 : a = 0
  · subst h0
    simp [cut60]
    omega
  · have h1 : 1 ≤ a := by omega
    have gb : b ≤ a * b := by
      have := Int.mul_le_mul_of_nonneg_right h1 hb.1
      omega
    have gc : c ≤ a * c := by
      have := Int.mul_le_mul_of_nonneg_right h1 hc.1
      omega
    have gt : top60 ≤ a * top60 := by
      have := Int.mul_le_mul_of_nonneg_right h1 (show (0 : Int) ≤ top60 by decide)
      omega
    have ed : a * (b + c) = a * b + a * c := Int.mul_add a b c
    by_cases k : b + c > top60
    · have e1 : cut60 (b + c) = top60 := by unfold cut60; rw [if_pos k]
      rw [e1]
      generalize a * b = u at *
      generalize a * c = v at *
      generalize a * top60 = t at *
      unfold cut60
      (repeat' split) <;> omega
    · have e1 : cut60 (b + c) = b + c := by unfold cut60; rw [if_neg k]
      rw [e1, ed]
      generalize a * b = u at *
      generalize a * c = v at *
      unfold cut60
      (repeat' split) <;> omega
def R_Many_both : V → V → V → Hp → VK → XK → Prop := fun _ x y H Q _ => ∃ i j, x = .int i ∧ y = .int j ∧ In60 i ∧ In60 j ∧ Q (.int (cut60 (i * j))) H
theorem ok_Many_both {f : Addr} {fd : FuncData} (F : Fun K "both" "Many.both" s_Many_both f fd) (T : Txt K mg cs) : FnOk P w K mg base (L2.CX P w) 1 f fd ["self", "one", "other"] (sp3 (R_Many_both)) := by
  refine F.okX sc_Many_both (fun vs H Q E h => sp3_len h) (fun cdv A outer s H vs Q E hr h => ⟨_, PBw (X := X_Many_both P w K mg base f cdv A outer s H E), ?_⟩)
  obtain ⟨a0, a1, a2, rfl, h⟩ := h
  have i_min := T.b_min
  obtain ⟨t_MOST_ROWS, h_MOST_ROWS⟩ := T.k_MOST_ROWS
  have i_MOST_ROWS : Gn mg "MOST_ROWS" (some _) := ⟨h_MOST_ROWS⟩
  have hr' : Room 0 (X_Many_both P w K mg base f cdv A outer s H E).A := hr
  replace hr := hr'
  clear hr'
  obtain ⟨i, j, rfl, rfl, hi, hj, h⟩ := h
  walk_at "w"
  refine o_mul (mul60 hi hj) ?_
  walk_at "w"
  exact h
theorem md_Many_both (T : Txt K mg cs) : Md P w K mg base cs.Many "both" 1 ["self", "one", "other"] (sp3 (R_Many_both)) := by
  obtain ⟨f, fd, hm, F, hb⟩ := T.m_Many_both.ex
  exact ⟨f, fd, hm, hb, ok_Many_both F T⟩
def R_law_number : V → Hp → VK → XK → Prop := fun x H Q _ => ∃ i, x = .int i ∧ ∀ n, In60 n → Q (.int n) H
theorem ok_law_number {f : Addr} {fd : FuncData} (F : Fun K "_law_number" "_law_number" s_law_number f fd) (T : Txt K mg cs) : FnOk P w K mg base (L2.CX P w) 1 f fd ["_law_cell"] (sp1 (R_law_number)) := by
  refine F.okX sc_law_number (fun vs H Q E h => sp1_len h) (fun cdv A outer s H vs Q E hr h => ⟨_, PBw (X := X_law_number P w K mg base f cdv A outer s H E), ?_⟩)
  obtain ⟨a0, rfl, h⟩ := h
  have hr' : Room 0 (X_law_number P w K mg base f cdv A outer s H E).A := hr
  replace hr := hr'
  clear hr'
  obtain ⟨i, rfl, h⟩ := h
  have z : ∀ n, 0 ≤ n → n ≤ top60 → Q (.int n) H := fun n a b => h n ⟨a, b⟩
  have e : top60 = 1000000000000000000000000000000000000000000000000000000000000 := rfl
  walk_at "w"
  refine iteD (fun c => ?_) fun c => ?_
  · walk_at "w"; exact z _ (by omega) (by omega)
  · walk_at "w"
    refine iteD (fun c => ?_) fun c => ?_
    · walk_at "w"; exact z _ (by omega) (by omega)
    · walk_at "w"
      refine iteD (fun c => ?_) fun c => ?_
      · walk_at "w"; exact z _ (by omega) (by omega)
      · walk_at "w"; exact z _ (by omega) (by omega)
theorem df_law_number (T : Txt K mg cs) : Df P w K mg base "_law_number" 1 ["_law_cell"] (sp1 (R_law_number)) := by
  obtain ⟨f, fd, hm, F, hb⟩ := T.f_law_number.ex
  exact ⟨f, fd, hm, F.kp, hb, ok_law_number F T⟩
def R_law_whole : V → Hp → VK → XK → Prop := fun x H Q _ => ∃ i, x = .int i ∧ Q (.bl true) H
theorem ok_law_whole {f : Addr} {fd : FuncData} (F : Fun K "_law_whole" "_law_whole" s_law_whole f fd) (T : Txt K mg cs) : FnOk P w K mg base (L2.CX P w) 1 f fd ["_law_found"] (sp1 (R_law_whole)) := by
  refine F.okX sc_law_whole (fun vs H Q E h => sp1_len h) (fun cdv A outer s H vs Q E hr h => ⟨_, PBw (X := X_law_whole P w K mg base f cdv A outer s H E), ?_⟩)
  obtain ⟨a0, rfl, h⟩ := h
  have i_isinstance := T.b_isinstance
  have i_int := T.b_int
  have i_bool := T.b_bool
  have hr' : Room 0 (X_law_whole P w K mg base f cdv A outer s H E).A := hr
  replace hr := hr'
  clear hr'
  obtain ⟨i, rfl, h⟩ := h
  walk_at "w"
  refine e_and ?_
  walk_at "w"
  refine k_isB (TyB.1 i) kb_int_int ?_
  walk_at "w"
  refine k_isB (TyB.1 i) kb_int_bool ?_
  walk_at "w"
  exact h
theorem df_law_whole (T : Txt K mg cs) : Df P w K mg base "_law_whole" 1 ["_law_found"] (sp1 (R_law_whole)) := by
  obtain ⟨f, fd, hm, F, hb⟩ := T.f_law_whole.ex
  exact ⟨f, fd, hm, F.kp, hb, ok_law_whole F T⟩
def R_law_cut : V → Hp → VK → XK → Prop := fun x H Q _ => ∃ i, x = .int i ∧ Q (.int (cut60 i)) H
theorem ok_law_cut {f : Addr} {fd : FuncData} (F : Fun K "_law_cut" "_law_cut" s_law_cut f fd) (T : Txt K mg cs) : FnOk P w K mg base (L2.CX P w) 1 f fd ["_law_number_here"] (sp1 (R_law_cut)) := by
  refine F.okX sc_law_cut (fun vs H Q E h => sp1_len h) (fun cdv A outer s H vs Q E hr h => ⟨_, PBw (X := X_law_cut P w K mg base f cdv A outer s H E), ?_⟩)
  obtain ⟨a0, rfl, h⟩ := h
  have hr' : Room 0 (X_law_cut P w K mg base f cdv A outer s H E).A := hr
  replace hr := hr'
  clear hr'
  obtain ⟨i, rfl, h⟩ := h
  have e : top60 = 1000000000000000000000000000000000000000000000000000000000000 := rfl
  walk_at "w"
  refine iteD (fun c => ?_) fun c => ?_
  · walk_at "w"
    rw [show cut60 i = 1000000000000000000000000000000000000000000000000000000000000 by unfold cut60; rw [if_pos (by omega)]; rfl] at h
    exact h
  · walk_at "w"
    rw [show cut60 i = i by unfold cut60; rw [if_neg (by omega)]] at h
    exact h
theorem df_law_cut (T : Txt K mg cs) : Df P w K mg base "_law_cut" 1 ["_law_number_here"] (sp1 (R_law_cut)) := by
  obtain ⟨f, fd, hm, F, hb⟩ := T.f_law_cut.ex
  exact ⟨f, fd, hm, F.kp, hb, ok_law_cut F T⟩
def R_law_sums (K : PySem.W.Frag) (cs : Cs) : V → V → V → Hp → VK → XK → Prop := fun m x y H Q _ => ∃ p dx i j, m = .ref p ∧ H p = some (.ins cs.Many dx []) ∧ x = .int i ∧ y = .int j ∧ In60 i ∧ In60 j ∧ Q (.bl true) H
theorem ok_law_sums {f : Addr} {fd : FuncData} (F : Fun K "_law_sums" "_law_sums" s_law_sums f fd) (T : Txt K mg cs) : FnOk P w K mg base (L2.CX P w) 2 f fd ["_law_many", "_law_one", "_law_other"] (sp3 (R_law_sums K cs)) := by
  refine F.okX sc_law_sums (fun vs H Q E h => sp3_len h) (fun cdv A outer s H vs Q E hr h => ⟨_, PBw (X := X_law_sums P w K mg base f cdv A outer s H E), ?_⟩)
  obtain ⟨a0, a1, a2, rfl, h⟩ := h
  have hr' : Room 1 (X_law_sums P w K mg base f cdv A outer s H E).A := hr
  replace hr := hr'
  clear hr'
  obtain ⟨p, dx, i, j, rfl, hp, rfl, rfl, hi, hj, h⟩ := h
  walk_at "w"
  refine e_meth T.c_Many.cl (md_Many_either T) (hr.mono (by decide)) (e_var rfl ⟨p, dx, [], rfl, hp, rfl, ?_⟩)
  walk_at "w"
  refine e_meth T.c_Many.cl (md_Many_both T) (hr.mono (by decide)) (e_var rfl ⟨p, dx, [], rfl, hp, rfl, ?_⟩)
  walk_at "w"
  refine ⟨hi, hj, ?_⟩
  walk_at "w"
  refine e_call (df_law_whole T) (hr.mono (by decide)) ?_
  walk_at "w"
  refine e_call (df_law_cut T) (hr.mono (by decide)) ?_
  walk_at "w"
  refine iteND (fun c => absurd rfl c) fun _ => ?_
  walk_at "w"
  refine e_and ?_
  refine e_call (df_law_whole T) (hr.mono (by decide)) ?_
  walk_at "w"
  refine e_call (df_law_cut T) (hr.mono (by decide)) ?_
  walk_at "w"
  refine o_mul (mul60 hi hj) ?_
  walk_at "w"
  rw [decide_eq_true rfl]
  exact h
theorem df_law_sums (T : Txt K mg cs) : Df P w K mg base "_law_sums" 2 ["_law_many", "_law_one", "_law_other"] (sp3 (R_law_sums K cs)) := by
  obtain ⟨f, fd, hm, F, hb⟩ := T.f_law_sums.ex
  exact ⟨f, fd, hm, F.kp, hb, ok_law_sums F T⟩
def R_law_spread (K : PySem.W.Frag) (cs : Cs) : V → V → V → V → Hp → VK → XK → Prop := fun m x y z H Q _ => ∃ p dx i j k, m = .ref p ∧ H p = some (.ins cs.Many dx []) ∧ x = .int i ∧ y = .int j ∧ z = .int k ∧ In60 i ∧ In60 j ∧ In60 k ∧ Q (.bl true) H
theorem ok_law_spread {f : Addr} {fd : FuncData} (F : Fun K "_law_spread" "_law_spread" s_law_spread f fd) (T : Txt K mg cs) : FnOk P w K mg base (L2.CX P w) 2 f fd ["_law_many", "_law_one", "_law_two", "_law_three"] (sp4 (R_law_spread K cs)) := by
  refine F.okX sc_law_spread (fun vs H Q E h => sp4_len h) (fun cdv A outer s H vs Q E hr h => ⟨_, PBw (X := X_law_spread P w K mg base f cdv A outer s H E), ?_⟩)
  obtain ⟨a0, a1, a2, a3, rfl, h⟩ := h
  have hr' : Room 1 (X_law_spread P w K mg base f cdv A outer s H E).A := hr
  replace hr := hr'
  clear hr'
  obtain ⟨p, dx, i, j, k, rfl, hp, rfl, rfl, rfl, hi, hj, hk, h⟩ := h
  walk_at "w"
  refine e_meth T.c_Many.cl (md_Many_both T) (hr.mono (by decide)) (e_var rfl ⟨p, dx, [], rfl, hp, rfl, ?_⟩)
  walk_at "w"
  refine e_meth T.c_Many.cl (md_Many_either T) (hr.mono (by decide)) (e_var rfl ⟨p, dx, [], rfl, hp, rfl, ?_⟩)
  walk_at "w"
  walk_at "w"
  refine ⟨hi, cut60_in (by omega), ?_⟩
  walk_at "w"
  refine e_meth T.c_Many.cl (md_Many_either T) (hr.mono (by decide)) (e_var rfl ⟨p, dx, [], rfl, hp, rfl, ?_⟩)
  walk_at "w"
  refine e_meth T.c_Many.cl (md_Many_both T) (hr.mono (by decide)) (e_var rfl ⟨p, dx, [], rfl, hp, rfl, ?_⟩)
  walk_at "w"
  refine ⟨hi, hj, ?_⟩
  walk_at "w"
  refine e_meth T.c_Many.cl (md_Many_both T) (hr.mono (by decide)) (e_var rfl ⟨p, dx, [], rfl, hp, rfl, ?_⟩)
  walk_at "w"
  refine ⟨hi, hk, ?_⟩
  walk_at "w"
  rw [decide_eq_true (spread60 hi hj hk)]
  exact h
theorem df_law_spread (T : Txt K mg cs) : Df P w K mg base "_law_spread" 2 ["_law_many", "_law_one", "_law_two", "_law_three"] (sp4 (R_law_spread K cs)) := by
  obtain ⟨f, fd, hm, F, hb⟩ := T.f_law_spread.ex
  exact ⟨f, fd, hm, F.kp, hb, ok_law_spread F T⟩
def R_law_truths (K : PySem.W.Frag) (cs : Cs) : V → V → V → Hp → VK → XK → Prop := fun m x y H Q _ => ∃ p dx i j, m = .ref p ∧ H p = some (.ins cs.Tally dx []) ∧ x = .bl i ∧ y = .bl j ∧ ∀ H', Same H H' → Q (.bl true) H'
theorem ok_law_truths {f : Addr} {fd : FuncData} (F : Fun K "_law_truths" "_law_truths" s_law_truths f fd) (T : Txt K mg cs) : FnOk P w K mg base (L2.CX P w) 2 f fd ["_law_tally", "_law_one", "_law_other"] (sp3 (R_law_truths K cs)) := by
  refine F.okX sc_law_truths (fun vs H Q E h => sp3_len h) (fun cdv A outer s H vs Q E hr h => ⟨_, PBw (X := X_law_truths P w K mg base f cdv A outer s H E), ?_⟩)
  obtain ⟨a0, a1, a2, rfl, h⟩ := h
  have i_isinstance := T.b_isinstance
  have i_bool := T.b_bool
  have hr' : Room 1 (X_law_truths P w K mg base f cdv A outer s H E).A := hr
  replace hr := hr'
  clear hr'
  obtain ⟨p, dx, i, j, rfl, hp, rfl, rfl, h⟩ := h
  walk_at "w"
  refine e_meth T.c_Tally.cl (md_Tally_either T) (hr.mono (by decide)) (e_var rfl ⟨p, dx, [], rfl, hp, rfl, ?_⟩)
  walk_at "w"
  refine e_meth T.c_Tally.cl (md_Tally_both T) (hr.mono (by decide)) (e_var rfl ⟨p, dx, [], rfl, hp, rfl, ?_⟩)
  walk_at "w"
  refine ⟨rfl, fun l H1 s1 n1 h1 _ => ?_⟩
  walk_at "w"
  refine s_forL ?_
  walk_at "w"
  refine ⟨l, _, rfl, SqL.of h1, fun n σ' H' => (∃ v, σ' = [some (.ref p), some (.bl i), some (.bl j), some (.ref l), v]) ∧ H' = H1, ⟨⟨_, rfl⟩, rfl⟩, fun n σ' H' _ ⟨_, e⟩ => by rw [e]; exact SqL.of h1, ?_, ?_⟩
  · rintro n v σ' H' hv ⟨⟨v', rfl⟩, rfl⟩
    obtain ⟨b, rfl⟩ : ∃ b, v = .bl b := by
      match n, hv with
      | 0, hv => exact ⟨_, (Option.some.inj hv).symm⟩
      | 1, hv => exact ⟨_, (Option.some.inj hv).symm⟩
    walk_at "w"
    refine k_isB (TyB.2.1 b) kb_bool_bool ?_
    walk_at "w"
    exact ⟨⟨_, rfl⟩, rfl⟩
  · rintro σ' H' ⟨⟨v', rfl⟩, rfl⟩
    walk_at "w"
    refine e_orJ (d := j) ?_
    refine e_var rfl ⟨_, rfl, fun _ Q' q => ?_, ?_⟩
    · walk_at "w"; exact q
    walk_at "w"
    refine e_andJ (d := j) ?_
    refine e_var rfl ⟨_, rfl, fun _ Q' q => ?_, ?_⟩
    · walk_at "w"; exact q
    walk_at "w"
    refine ⟨rfl, fun l2 H2 s2 n2 h2 _ => ?_⟩
    refine o_eqD (d := .list [.bool (i || j), .bool (i && j)]) (e := .list [.bool (i || j), .bool (i && j)]) hr.units (.lst (SqL.of (s2 _ _ h1)) (.cons (.bl _) (.cons (.bl _) .nil))) (.lst (SqL.of h2) (.cons (.bl _) (.cons (.bl _) .nil))) ?_ ?_ ?_
    · cases i <;> cases j <;> decide +kernel
    · cases i <;> cases j <;> decide +kernel
    · rw [show PyData.eqv (.list [.bool (i || j), .bool (i && j)]) (.list [.bool (i || j), .bool (i && j)]) = true by cases i <;> cases j <;> decide +kernel]
      exact h _ (s1.trans s2)
theorem df_law_truths (T : Txt K mg cs) : Df P w K mg base "_law_truths" 2 ["_law_tally", "_law_one", "_law_other"] (sp3 (R_law_truths K cs)) := by
  obtain ⟨f, fd, hm, F, hb⟩ := T.f_law_truths.ex
  exact ⟨f, fd, hm, F.kp, hb, ok_law_truths F T⟩
def R_law_begun (K : PySem.W.Frag) (cs : Cs) : V → V → V → Hp → VK → XK → Prop := fun m t x H Q _ => ∃ p dx q dy i, m = .ref p ∧ H p = some (.ins cs.Many dx []) ∧ t = .ref q ∧ H q = some (.ins cs.Tally dy []) ∧ x = .int i ∧ ∀ H', Same H H' → Q (.bl true) H'
theorem ok_law_begun {f : Addr} {fd : FuncData} (F : Fun K "_law_begun" "_law_begun" s_law_begun f fd) (T : Txt K mg cs) : FnOk P w K mg base (L2.CX P w) 2 f fd ["_law_many", "_law_tally", "_law_cell"] (sp3 (R_law_begun K cs)) := by
  refine F.okX sc_law_begun (fun vs H Q E h => sp3_len h) (fun cdv A outer s H vs Q E hr h => ⟨_, PBw (X := X_law_begun P w K mg base f cdv A outer s H E), ?_⟩)
  obtain ⟨a0, a1, a2, rfl, h⟩ := h
  have i_isinstance := T.b_isinstance
  have i_bool := T.b_bool
  have hr' : Room 1 (X_law_begun P w K mg base f cdv A outer s H E).A := hr
  replace hr := hr'
  clear hr'
  obtain ⟨p, dx, q, dy, i, rfl, hp, rfl, hq, rfl, h⟩ := h
  walk_at "w"
  refine e_meth0 T.c_Many.cl (md_Many_nothing T) (hr.mono (by decide)) (e_var rfl ⟨p, dx, [], rfl, hp, rfl, ?_⟩)
  walk_at "w"
  refine e_meth0 T.c_Many.cl (md_Many_blank T) (hr.mono (by decide)) (e_var rfl ⟨p, dx, [], rfl, hp, rfl, ?_⟩)
  walk_at "w"
  refine e_meth T.c_Many.cl (md_Many_of_rule T) (hr.mono (by decide)) (e_var rfl ⟨p, dx, [], rfl, hp, rfl, ?_⟩)
  walk_at "w"
  refine ⟨rfl, fun l H1 s1 n1 h1 _ => ?_⟩
  walk_at "w"
  refine s_forL ?_
  walk_at "w"
  refine ⟨l, _, rfl, SqL.of h1, fun n σ' H' => (∃ v, σ' = [some (.ref p), some (.ref q), some (.int i), some (.ref l), v, none, none]) ∧ H' = H1, ⟨⟨_, rfl⟩, rfl⟩, fun n σ' H' _ ⟨_, e⟩ => by rw [e]; exact SqL.of h1, ?_, ?_⟩
  · rintro n v σ' H' hv ⟨⟨v', rfl⟩, rfl⟩
    obtain ⟨b, rfl⟩ : ∃ b, v = .int b := by
      match n, hv with
      | 0, hv => exact ⟨_, (Option.some.inj hv).symm⟩
      | 1, hv => exact ⟨_, (Option.some.inj hv).symm⟩
      | 2, hv => exact ⟨_, (Option.some.inj hv).symm⟩
    walk_at "w"
    refine e_call (df_law_whole T) (hr.mono (by decide)) ?_
    walk_at "w"
    exact ⟨⟨_, rfl⟩, rfl⟩
  · rintro σ' H' ⟨⟨v', rfl⟩, rfl⟩
    walk_at "w"
    refine e_meth0 T.c_Tally.cl (md_Tally_nothing T) (hr.mono (by decide)) (e_var rfl ⟨q, dy, [], rfl, s1 _ _ hq, rfl, ?_⟩)
    walk_at "w"
    refine e_meth0 T.c_Tally.cl (md_Tally_blank T) (hr.mono (by decide)) (e_var rfl ⟨q, dy, [], rfl, s1 _ _ hq, rfl, ?_⟩)
    walk_at "w"
    refine e_meth T.c_Tally.cl (md_Tally_of_rule T) (hr.mono (by decide)) (e_var rfl ⟨q, dy, [], rfl, s1 _ _ hq, rfl, ?_⟩)
    walk_at "w"
    refine ⟨rfl, fun l2 H2 s2 n2 h2 _ => ?_⟩
    walk_at "w"
    refine s_forL ?_
    walk_at "w"
    refine ⟨l2, _, rfl, SqL.of h2, fun n σ' H' => (∃ v, σ' = [some (.ref p), some (.ref q), some (.int i), some (.ref l), v', some (.ref l2), v]) ∧ H' = H2, ⟨⟨_, rfl⟩, rfl⟩, fun n σ' H' _ ⟨_, e⟩ => by rw [e]; exact SqL.of h2, ?_, ?_⟩
    · rintro n v σ' H' hv ⟨⟨v', rfl⟩, rfl⟩
      obtain ⟨b, rfl⟩ : ∃ b, v = .bl b := by
        match n, hv with
        | 0, hv => exact ⟨_, (Option.some.inj hv).symm⟩
        | 1, hv => exact ⟨_, (Option.some.inj hv).symm⟩
        | 2, hv => exact ⟨_, (Option.some.inj hv).symm⟩
      walk_at "w"
      refine k_isB (TyB.2.1 b) kb_bool_bool ?_
      walk_at "w"
      exact ⟨⟨_, rfl⟩, rfl⟩
    · rintro σ' H' ⟨⟨v', rfl⟩, rfl⟩
      walk_at "w"
      refine e_and ?_
      walk_at "w"
      refine ⟨rfl, fun l3 H3 s3 n3 h3 _ => ?_⟩
      refine o_eqD (d := .list [.int 0, .int 1, .int 1]) (e := .list [.int 0, .int 1, .int 1]) hr.units (.lst (SqL.of (s3 _ _ (s2 _ _ h1))) (.cons (.int _) (.cons (.int _) (.cons (.int _) .nil)))) (.lst (SqL.of h3) (.cons (.int _) (.cons (.int _) (.cons (.int _) .nil)))) (by decide +kernel) (by decide +kernel) ?_
      rw [show PyData.eqv (.list [.int 0, .int 1, .int 1]) (.list [.int 0, .int 1, .int 1]) = true by decide +kernel]
      walk_at "w"
      refine ⟨rfl, fun l4 H4 s4 n4 h4 _ => ?_⟩
      refine o_eqD (d := .list [.bool false, .bool true, .bool true]) (e := .list [.bool false, .bool true, .bool true]) hr.units (.lst (SqL.of (s4 _ _ (s3 _ _ h2))) (.cons (.bl _) (.cons (.bl _) (.cons (.bl _) .nil)))) (.lst (SqL.of h4) (.cons (.bl _) (.cons (.bl _) (.cons (.bl _) .nil)))) (by decide +kernel) (by decide +kernel) ?_
      rw [show PyData.eqv (.list [.bool false, .bool true, .bool true]) (.list [.bool false, .bool true, .bool true]) = true by decide +kernel]
      exact h _ (s1.trans (s2.trans (s3.trans s4)))
theorem df_law_begun (T : Txt K mg cs) : Df P w K mg base "_law_begun" 2 ["_law_many", "_law_tally", "_law_cell"] (sp3 (R_law_begun K cs)) := by
  obtain ⟨f, fd, hm, F, hb⟩ := T.f_law_begun.ex
  exact ⟨f, fd, hm, F.kp, hb, ok_law_begun F T⟩
theorem ok_law {f : Addr} {fd : FuncData} (F : Fun K "law" "law" s_law f fd) (T : Txt K mg cs) : FnOk P w K mg base (L2.CX P w) 3 f fd ["_law_script"] (sp1 (R_law K)) := by
  refine F.okX sc_law (fun vs H Q E h => sp1_len h) (fun cdv A outer s H vs Q E hr h => ⟨_, PBw (X := X_law P w K mg base f cdv A outer s H E), ?_⟩)
  obtain ⟨a0, rfl, h⟩ := h
  have i_Many : Gn mg "Many" (some _) := ⟨T.c_Many.mg⟩
  have i_Tally : Gn mg "Tally" (some _) := ⟨T.c_Tally.mg⟩
  have i_isinstance := T.b_isinstance
  have i_len := T.b_len
  have hr' : Room 2 (X_law P w K mg base f cdv A outer s H E).A := hr
  replace hr := hr'
  clear hr'
  obtain ⟨a, ns, rfl, hS, hlen, h⟩ := h
  walk_at "w"
  refine e_makeO T.c_Many.mks T.c_Many.kp T.i_Many fun p dx np nd ne => ?_
  have s1 := Same.made' (C := cs.Many) np nd
  have hp : (upd (upd H dx (.own p)) p (.ins cs.Many dx [])) p = some (.ins cs.Many dx []) := upd_same
  generalize upd (upd H dx (.own p)) p (.ins cs.Many dx []) = H1 at s1 hp ⊢
  walk_at "w"
  refine e_makeO T.c_Tally.mks T.c_Tally.kp T.i_Tally fun q dy nq ndy ney => ?_
  have s2 := Same.made' (C := cs.Tally) nq ndy
  have hq : (upd (upd H1 dy (.own q)) q (.ins cs.Tally dy [])) q = some (.ins cs.Tally dy []) := upd_same
  generalize upd (upd H1 dy (.own q)) q (.ins cs.Tally dy []) = H2 at s2 hq ⊢
  replace hp := s2 _ _ hp
  replace hS := s2.seq (s1.seq hS)
  have neMT : cs.Many ≠ cs.Tally := by
    intro e
    have z := T.s_Many_Tally
    have z2 := T.s_Tally_Many
    rw [e] at z z2
    rw [z] at z2
    cases z2
  walk_at "w"
  refine k_isi (.own _) (T.c_Many.tyX hp) (kit_refs T.s_Many_Tally T.c_Tally.ic T.c_Tally.ty neMT) ?_
  walk_at "w"
  refine k_isi (.own _) (T.c_Tally.tyX hq) (kit_refs T.s_Tally_Many T.c_Many.ic T.c_Many.ty neMT.symm) ?_
  walk_at "w"
  refine e_call (df_law_begun T) (hr.mono (by decide)) ?_
  walk_at "w"
  refine k_lenL hS ?_
  walk_at "w"
  refine ⟨p, dx, q, dy, _, rfl, hp, rfl, hq, rfl, fun H3 s3 => ?_⟩
  walk_at "w"
  refine s_forL ?_
  walk_at "w"
  refine ⟨a, _, rfl, s3.seq hS, fun n σ' H' => ∃ hd ls tr v1 v2 v3, σ' = [some (.ref a), some (.ref p), some (.ref q), some (.int hd), some (.int ls), some (.bl tr), v1, v2, v3] ∧ In60 hd ∧ In60 ls ∧ Same H2 H',
    ⟨_, _, _, _, _, _, rfl, by decide, by decide, s3⟩, fun n σ' H' _ ⟨_, _, _, _, _, _, _, _, _, s⟩ => s.seq hS, ?_, ?_⟩
  · rintro n v σ' H' hv ⟨hd, ls, tr, v1, v2, v3, rfl, hhd, hls, s4⟩
    obtain ⟨c, rfl⟩ : ∃ c, v = .int c := by
      rw [List.getElem?_map] at hv
      cases e : ns[n]? with
      | none => rw [e] at hv; cases hv
      | some z => rw [e] at hv; exact ⟨z, (Option.some.inj hv).symm⟩
    have hp4 := s4 _ _ hp
    have hq4 := s4 _ _ hq
    walk_at "w"
    refine e_call (df_law_number T) (hr.mono (by decide)) ?_
    walk_at "w"
    intro m hm
    walk_at "w"
    refine e_call (df_law_sums T) (hr.mono (by decide)) ?_
    walk_at "w"
    refine ⟨p, dx, _, _, rfl, hp4, rfl, rfl, hhd, hm, ?_⟩
    walk_at "w"
    refine e_call (df_law_sums T) (hr.mono (by decide)) ?_
    walk_at "w"
    refine ⟨p, dx, _, _, rfl, hp4, rfl, rfl, hm, hhd, ?_⟩
    walk_at "w"
    refine e_call (df_law_spread T) (hr.mono (by decide)) ?_
    walk_at "w"
    refine ⟨_, _, _, _, rfl, p, dx, _, _, _, rfl, hp4, rfl, rfl, rfl, hm, hhd, hls, ?_⟩
    walk_at "w"
    refine e_call (df_law_begun T) (hr.mono (by decide)) ?_
    walk_at "w"
    refine ⟨p, dx, q, dy, _, rfl, hp4, rfl, hq4, rfl, fun H5 s5 => ?_⟩
    walk_at "w"
    refine e_call (df_law_truths T) (hr.mono (by decide)) ?_
    walk_at "w"
    refine ⟨q, dy, _, _, rfl, s5 _ _ hq4, rfl, rfl, fun H6 s6 => ?_⟩
    walk_at "w"
    refine e_call (df_law_truths T) (hr.mono (by decide)) ?_
    walk_at "w"
    refine ⟨q, dy, _, _, rfl, s6 _ _ (s5 _ _ hq4), rfl, rfl, fun H7 s7 => ?_⟩
    walk_at "w"
    refine e_orJ (d := decide (c / 4 % 2 = 1)) ?_
    refine e_var rfl ⟨_, rfl, fun _ Q' q => ?_, ?_⟩
    · walk_at "w"; exact q
    walk_at "w"
    refine e_andJ (d := decide (c / 4 % 2 = 1)) ?_
    refine e_var rfl ⟨_, rfl, fun _ Q' q => ?_, ?_⟩
    · walk_at "w"; exact q
    walk_at "w"
    refine ⟨rfl, fun l8 H8 s8 n8 h8 _ => ?_⟩
    walk_at "w"
    obtain ⟨b, hb, tr', rfl⟩ := atI_all (xs := [V.bl (tr || decide (c / 4 % 2 = 1)), V.bl (tr && decide (c / 4 % 2 = 1)), V.bl (decide (c / 4 % 2 = 1))]) (i := c / 8 % 3) (P := fun v => ∃ b, v = .bl b) (by omega) (by show c / 8 % 3 < 3; omega) (by
      intro x hx
      simp only [List.mem_cons, List.not_mem_nil, or_false] at hx
      rcases hx with rfl | rfl | rfl <;> exact ⟨_, rfl⟩)
    refine i_lst (SqL.of h8) hb ?_
    walk_at "w"
    refine e_call (df_law_cut T) (hr.mono (by decide)) ?_
    walk_at "w"
    refine e_call (df_law_cut T) (hr.mono (by decide)) ?_
    walk_at "w"
    refine o_mul (mul60 hhd hm) ?_
    walk_at "w"
    refine ⟨rfl, fun l9 H9 s9 n9 h9 _ => ?_⟩
    walk_at "w"
    have q1 : In60 (cut60 (hd + m)) := cut60_in (by omega)
    have q2 : In60 (cut60 (hd * m)) := cut60_in (mul_nn hhd hm)
    obtain ⟨b2, hb2, hd', rfl, hin⟩ := atI_all (xs := [V.int (cut60 (hd + m)), V.int (cut60 (hd * m)), V.int m]) (i := c / 8 % 3) (P := fun v => ∃ b, v = .int b ∧ In60 b) (by omega) (by show c / 8 % 3 < 3; omega) (by
      intro x hx
      simp only [List.mem_cons, List.not_mem_nil, or_false] at hx
      rcases hx with rfl | rfl | rfl
      · exact ⟨_, rfl, q1⟩
      · exact ⟨_, rfl, q2⟩
      · exact ⟨_, rfl, hm⟩)
    refine i_lst (SqL.of h9) hb2 ?_
    walk_at "w"
    exact ⟨_, _, _, _, _, _, rfl, hin, hm, s4.trans (s5.trans (s6.trans (s7.trans (s8.trans s9))))⟩
  · rintro σ' H' ⟨hd, ls, tr, v1, v2, v3, rfl, hhd, hls, s4⟩
    walk_at "w"
    refine e_call (df_law_begun T) (hr.mono (by decide)) ?_
    walk_at "w"
    refine ⟨p, dx, q, dy, _, rfl, s4 _ _ hp, rfl, s4 _ _ hq, rfl, fun H5 s5 => ?_⟩
    exact h _

end
theorem all_mk {l : PySem.W.OpenLaw} {w : World} {K : PySem.W.Frag} {h : Heap} {mg : Str → Option Value} {fa C_Tally C_Many f_m_Tally_nothing f_m_Tally_blank f_m_Tally_of_rule f_m_Tally_either f_m_Tally_both f_m_Many_nothing f_m_Many_blank f_m_Many_of_rule f_m_Many_either f_m_Many_both f_law_number f_law_whole f_law_cut f_law_sums f_law_spread f_law_truths f_law_begun f_law : Addr} (X : K.In h) (G : h.Ns mainGlobals mg) (hfa : mg "law" = some (.ref fa))
    {t_MOST_ROWS : Tok}
    {od_m_Tally_nothing an_m_Tally_nothing : Option Addr} {sl_m_Tally_nothing : Array (Option Value)} {oc_m_Tally_nothing kV_m_Tally_nothing dc_m_Tally_nothing pm_m_Tally_nothing cd_m_Tally_nothing ct_m_Tally_nothing : Value}
    {od_m_Tally_blank an_m_Tally_blank : Option Addr} {sl_m_Tally_blank : Array (Option Value)} {oc_m_Tally_blank kV_m_Tally_blank dc_m_Tally_blank pm_m_Tally_blank cd_m_Tally_blank ct_m_Tally_blank : Value}
    {od_m_Tally_of_rule an_m_Tally_of_rule : Option Addr} {sl_m_Tally_of_rule : Array (Option Value)} {oc_m_Tally_of_rule kV_m_Tally_of_rule dc_m_Tally_of_rule pm_m_Tally_of_rule cd_m_Tally_of_rule ct_m_Tally_of_rule : Value}
    {od_m_Tally_either an_m_Tally_either : Option Addr} {sl_m_Tally_either : Array (Option Value)} {oc_m_Tally_either kV_m_Tally_either dc_m_Tally_either pm_m_Tally_either cd_m_Tally_either ct_m_Tally_either : Value}
    {od_m_Tally_both an_m_Tally_both : Option Addr} {sl_m_Tally_both : Array (Option Value)} {oc_m_Tally_both kV_m_Tally_both dc_m_Tally_both pm_m_Tally_both cd_m_Tally_both ct_m_Tally_both : Value}
    {od_m_Many_nothing an_m_Many_nothing : Option Addr} {sl_m_Many_nothing : Array (Option Value)} {oc_m_Many_nothing kV_m_Many_nothing dc_m_Many_nothing pm_m_Many_nothing cd_m_Many_nothing ct_m_Many_nothing : Value}
    {od_m_Many_blank an_m_Many_blank : Option Addr} {sl_m_Many_blank : Array (Option Value)} {oc_m_Many_blank kV_m_Many_blank dc_m_Many_blank pm_m_Many_blank cd_m_Many_blank ct_m_Many_blank : Value}
    {od_m_Many_of_rule an_m_Many_of_rule : Option Addr} {sl_m_Many_of_rule : Array (Option Value)} {oc_m_Many_of_rule kV_m_Many_of_rule dc_m_Many_of_rule pm_m_Many_of_rule cd_m_Many_of_rule ct_m_Many_of_rule : Value}
    {od_m_Many_either an_m_Many_either : Option Addr} {sl_m_Many_either : Array (Option Value)} {oc_m_Many_either kV_m_Many_either dc_m_Many_either pm_m_Many_either cd_m_Many_either ct_m_Many_either : Value}
    {od_m_Many_both an_m_Many_both : Option Addr} {sl_m_Many_both : Array (Option Value)} {oc_m_Many_both kV_m_Many_both dc_m_Many_both pm_m_Many_both cd_m_Many_both ct_m_Many_both : Value}
    {od_law_number an_law_number : Option Addr} {sl_law_number : Array (Option Value)} {oc_law_number kV_law_number dc_law_number pm_law_number cd_law_number ct_law_number : Value}
    {od_law_whole an_law_whole : Option Addr} {sl_law_whole : Array (Option Value)} {oc_law_whole kV_law_whole dc_law_whole pm_law_whole cd_law_whole ct_law_whole : Value}
    {od_law_cut an_law_cut : Option Addr} {sl_law_cut : Array (Option Value)} {oc_law_cut kV_law_cut dc_law_cut pm_law_cut cd_law_cut ct_law_cut : Value}
    {od_law_sums an_law_sums : Option Addr} {sl_law_sums : Array (Option Value)} {oc_law_sums kV_law_sums dc_law_sums pm_law_sums cd_law_sums ct_law_sums : Value}
    {od_law_spread an_law_spread : Option Addr} {sl_law_spread : Array (Option Value)} {oc_law_spread kV_law_spread dc_law_spread pm_law_spread cd_law_spread ct_law_spread : Value}
    {od_law_truths an_law_truths : Option Addr} {sl_law_truths : Array (Option Value)} {oc_law_truths kV_law_truths dc_law_truths pm_law_truths cd_law_truths ct_law_truths : Value}
    {od_law_begun an_law_begun : Option Addr} {sl_law_begun : Array (Option Value)} {oc_law_begun kV_law_begun dc_law_begun pm_law_begun cd_law_begun ct_law_begun : Value}
    {od_law an_law : Option Addr} {sl_law : Array (Option Value)} {oc_law kV_law dc_law pm_law cd_law ct_law : Value}
    (b_bool : PySem.W.nsIn K mainGlobals "bool" = some none)
    (b_int : PySem.W.nsIn K mainGlobals "int" = some none)
    (b_isinstance : PySem.W.nsIn K mainGlobals "isinstance" = some none)
    (b_len : PySem.W.nsIn K mainGlobals "len" = some none)
    (b_min : PySem.W.nsIn K mainGlobals "min" = some none)
    (k_MOST_ROWS : PySem.W.nsIn K mainGlobals "MOST_ROWS" = some (some (.int (1000000000000000000000000000000000000000000000000000000000000) t_MOST_ROWS)))
    (g_Tally : PySem.W.nsIn K mainGlobals "Tally" = some (some (.ref C_Tally)))
    (pg_Tally : PySem.W.plainGet K C_Tally Str.empty = true)
    (hd_Tally : PySem.W.hasDictIn K C_Tally = true)
    (po_Tally : PySem.W.plainOver K C_Tally = true)
    (sa_Tally : PySem.W.findIn K (.ref C_Tally) "__setattr__" = some (some (.builtin "object.__setattr__")))
    (mk_Tally : PySem.W.makesIn K C_Tally = true)
    (kc_Tally : PySem.W.keepIn K (.ref C_Tally) = true)
    (ha_Tally : PySem.W.findIn K (.ref C_Tally) "__class__" = some (some (.builtin "object.__class__")))
    (hn_Tally : PySem.W.specialIn K (.builtin "object.__class__") "__get__" = some (some (.builtin "getset_descriptor.__get__")))
    (ht_Tally : PySem.W.takesIn K (.builtin "object.__class__") = some true)
    (hm_Tally : PySem.W.mroIn K C_Tally (.type "object") = some true)
    (tc_Tally : PySem.W.typeIn K (.ref C_Tally) = some (.type "type"))
    (ic_Tally : PySem.W.isClsIn K C_Tally = true)
    (oi_Tally : PySem.W.findIn K (.ref C_Tally) "__init__" = some (some (.builtin "object.__init__")))
    (a_m_Tally_nothing : PySem.W.findIn K (.ref C_Tally) "nothing" = some (some (.ref f_m_Tally_nothing)))
    (y_m_Tally_nothing : PySem.W.isFn K (.ref f_m_Tally_nothing) = true)
    (l_m_Tally_nothing : K.lookup f_m_Tally_nothing = some ⟨oc_m_Tally_nothing, od_m_Tally_nothing, .func (PySem.W.fnOf "nothing" "Tally.nothing" (defArgs s_Tally_nothing) (defBody s_Tally_nothing) (defScope s_Tally_nothing) .none kV_m_Tally_nothing dc_m_Tally_nothing pm_m_Tally_nothing an_m_Tally_nothing cd_m_Tally_nothing ct_m_Tally_nothing), sl_m_Tally_nothing⟩)
    (e_m_Tally_nothing : PySem.W.codeIn K cd_m_Tally_nothing "Tally.nothing" = true)
    (p_m_Tally_nothing : PySem.W.keepIn K (.ref f_m_Tally_nothing) = true)
    (a_m_Tally_blank : PySem.W.findIn K (.ref C_Tally) "blank" = some (some (.ref f_m_Tally_blank)))
    (y_m_Tally_blank : PySem.W.isFn K (.ref f_m_Tally_blank) = true)
    (l_m_Tally_blank : K.lookup f_m_Tally_blank = some ⟨oc_m_Tally_blank, od_m_Tally_blank, .func (PySem.W.fnOf "blank" "Tally.blank" (defArgs s_Tally_blank) (defBody s_Tally_blank) (defScope s_Tally_blank) .none kV_m_Tally_blank dc_m_Tally_blank pm_m_Tally_blank an_m_Tally_blank cd_m_Tally_blank ct_m_Tally_blank), sl_m_Tally_blank⟩)
    (e_m_Tally_blank : PySem.W.codeIn K cd_m_Tally_blank "Tally.blank" = true)
    (p_m_Tally_blank : PySem.W.keepIn K (.ref f_m_Tally_blank) = true)
    (a_m_Tally_of_rule : PySem.W.findIn K (.ref C_Tally) "of_rule" = some (some (.ref f_m_Tally_of_rule)))
    (y_m_Tally_of_rule : PySem.W.isFn K (.ref f_m_Tally_of_rule) = true)
    (l_m_Tally_of_rule : K.lookup f_m_Tally_of_rule = some ⟨oc_m_Tally_of_rule, od_m_Tally_of_rule, .func (PySem.W.fnOf "of_rule" "Tally.of_rule" (defArgs s_Tally_of_rule) (defBody s_Tally_of_rule) (defScope s_Tally_of_rule) .none kV_m_Tally_of_rule dc_m_Tally_of_rule pm_m_Tally_of_rule an_m_Tally_of_rule cd_m_Tally_of_rule ct_m_Tally_of_rule), sl_m_Tally_of_rule⟩)
    (e_m_Tally_of_rule : PySem.W.codeIn K cd_m_Tally_of_rule "Tally.of_rule" = true)
    (p_m_Tally_of_rule : PySem.W.keepIn K (.ref f_m_Tally_of_rule) = true)
    (a_m_Tally_either : PySem.W.findIn K (.ref C_Tally) "either" = some (some (.ref f_m_Tally_either)))
    (y_m_Tally_either : PySem.W.isFn K (.ref f_m_Tally_either) = true)
    (l_m_Tally_either : K.lookup f_m_Tally_either = some ⟨oc_m_Tally_either, od_m_Tally_either, .func (PySem.W.fnOf "either" "Tally.either" (defArgs s_Tally_either) (defBody s_Tally_either) (defScope s_Tally_either) .none kV_m_Tally_either dc_m_Tally_either pm_m_Tally_either an_m_Tally_either cd_m_Tally_either ct_m_Tally_either), sl_m_Tally_either⟩)
    (e_m_Tally_either : PySem.W.codeIn K cd_m_Tally_either "Tally.either" = true)
    (p_m_Tally_either : PySem.W.keepIn K (.ref f_m_Tally_either) = true)
    (a_m_Tally_both : PySem.W.findIn K (.ref C_Tally) "both" = some (some (.ref f_m_Tally_both)))
    (y_m_Tally_both : PySem.W.isFn K (.ref f_m_Tally_both) = true)
    (l_m_Tally_both : K.lookup f_m_Tally_both = some ⟨oc_m_Tally_both, od_m_Tally_both, .func (PySem.W.fnOf "both" "Tally.both" (defArgs s_Tally_both) (defBody s_Tally_both) (defScope s_Tally_both) .none kV_m_Tally_both dc_m_Tally_both pm_m_Tally_both an_m_Tally_both cd_m_Tally_both ct_m_Tally_both), sl_m_Tally_both⟩)
    (e_m_Tally_both : PySem.W.codeIn K cd_m_Tally_both "Tally.both" = true)
    (p_m_Tally_both : PySem.W.keepIn K (.ref f_m_Tally_both) = true)
    (g_Many : PySem.W.nsIn K mainGlobals "Many" = some (some (.ref C_Many)))
    (pg_Many : PySem.W.plainGet K C_Many Str.empty = true)
    (hd_Many : PySem.W.hasDictIn K C_Many = true)
    (po_Many : PySem.W.plainOver K C_Many = true)
    (sa_Many : PySem.W.findIn K (.ref C_Many) "__setattr__" = some (some (.builtin "object.__setattr__")))
    (mk_Many : PySem.W.makesIn K C_Many = true)
    (kc_Many : PySem.W.keepIn K (.ref C_Many) = true)
    (ha_Many : PySem.W.findIn K (.ref C_Many) "__class__" = some (some (.builtin "object.__class__")))
    (hn_Many : PySem.W.specialIn K (.builtin "object.__class__") "__get__" = some (some (.builtin "getset_descriptor.__get__")))
    (ht_Many : PySem.W.takesIn K (.builtin "object.__class__") = some true)
    (hm_Many : PySem.W.mroIn K C_Many (.type "object") = some true)
    (tc_Many : PySem.W.typeIn K (.ref C_Many) = some (.type "type"))
    (ic_Many : PySem.W.isClsIn K C_Many = true)
    (oi_Many : PySem.W.findIn K (.ref C_Many) "__init__" = some (some (.builtin "object.__init__")))
    (a_m_Many_nothing : PySem.W.findIn K (.ref C_Many) "nothing" = some (some (.ref f_m_Many_nothing)))
    (y_m_Many_nothing : PySem.W.isFn K (.ref f_m_Many_nothing) = true)
    (l_m_Many_nothing : K.lookup f_m_Many_nothing = some ⟨oc_m_Many_nothing, od_m_Many_nothing, .func (PySem.W.fnOf "nothing" "Many.nothing" (defArgs s_Many_nothing) (defBody s_Many_nothing) (defScope s_Many_nothing) .none kV_m_Many_nothing dc_m_Many_nothing pm_m_Many_nothing an_m_Many_nothing cd_m_Many_nothing ct_m_Many_nothing), sl_m_Many_nothing⟩)
    (e_m_Many_nothing : PySem.W.codeIn K cd_m_Many_nothing "Many.nothing" = true)
    (p_m_Many_nothing : PySem.W.keepIn K (.ref f_m_Many_nothing) = true)
    (a_m_Many_blank : PySem.W.findIn K (.ref C_Many) "blank" = some (some (.ref f_m_Many_blank)))
    (y_m_Many_blank : PySem.W.isFn K (.ref f_m_Many_blank) = true)
    (l_m_Many_blank : K.lookup f_m_Many_blank = some ⟨oc_m_Many_blank, od_m_Many_blank, .func (PySem.W.fnOf "blank" "Many.blank" (defArgs s_Many_blank) (defBody s_Many_blank) (defScope s_Many_blank) .none kV_m_Many_blank dc_m_Many_blank pm_m_Many_blank an_m_Many_blank cd_m_Many_blank ct_m_Many_blank), sl_m_Many_blank⟩)
    (e_m_Many_blank : PySem.W.codeIn K cd_m_Many_blank "Many.blank" = true)
    (p_m_Many_blank : PySem.W.keepIn K (.ref f_m_Many_blank) = true)
    (a_m_Many_of_rule : PySem.W.findIn K (.ref C_Many) "of_rule" = some (some (.ref f_m_Many_of_rule)))
    (y_m_Many_of_rule : PySem.W.isFn K (.ref f_m_Many_of_rule) = true)
    (l_m_Many_of_rule : K.lookup f_m_Many_of_rule = some ⟨oc_m_Many_of_rule, od_m_Many_of_rule, .func (PySem.W.fnOf "of_rule" "Many.of_rule" (defArgs s_Many_of_rule) (defBody s_Many_of_rule) (defScope s_Many_of_rule) .none kV_m_Many_of_rule dc_m_Many_of_rule pm_m_Many_of_rule an_m_Many_of_rule cd_m_Many_of_rule ct_m_Many_of_rule), sl_m_Many_of_rule⟩)
    (e_m_Many_of_rule : PySem.W.codeIn K cd_m_Many_of_rule "Many.of_rule" = true)
    (p_m_Many_of_rule : PySem.W.keepIn K (.ref f_m_Many_of_rule) = true)
    (a_m_Many_either : PySem.W.findIn K (.ref C_Many) "either" = some (some (.ref f_m_Many_either)))
    (y_m_Many_either : PySem.W.isFn K (.ref f_m_Many_either) = true)
    (l_m_Many_either : K.lookup f_m_Many_either = some ⟨oc_m_Many_either, od_m_Many_either, .func (PySem.W.fnOf "either" "Many.either" (defArgs s_Many_either) (defBody s_Many_either) (defScope s_Many_either) .none kV_m_Many_either dc_m_Many_either pm_m_Many_either an_m_Many_either cd_m_Many_either ct_m_Many_either), sl_m_Many_either⟩)
    (e_m_Many_either : PySem.W.codeIn K cd_m_Many_either "Many.either" = true)
    (p_m_Many_either : PySem.W.keepIn K (.ref f_m_Many_either) = true)
    (a_m_Many_both : PySem.W.findIn K (.ref C_Many) "both" = some (some (.ref f_m_Many_both)))
    (y_m_Many_both : PySem.W.isFn K (.ref f_m_Many_both) = true)
    (l_m_Many_both : K.lookup f_m_Many_both = some ⟨oc_m_Many_both, od_m_Many_both, .func (PySem.W.fnOf "both" "Many.both" (defArgs s_Many_both) (defBody s_Many_both) (defScope s_Many_both) .none kV_m_Many_both dc_m_Many_both pm_m_Many_both an_m_Many_both cd_m_Many_both ct_m_Many_both), sl_m_Many_both⟩)
    (e_m_Many_both : PySem.W.codeIn K cd_m_Many_both "Many.both" = true)
    (p_m_Many_both : PySem.W.keepIn K (.ref f_m_Many_both) = true)
    (su_Tally_Many : PySem.W.subIn K (.ref C_Tally) (.ref C_Many) = some false)
    (su_Many_Tally : PySem.W.subIn K (.ref C_Many) (.ref C_Tally) = some true)
    (a_law_number : PySem.W.nsIn K mainGlobals "_law_number" = some (some (.ref f_law_number)))
    (l_law_number : K.lookup f_law_number = some ⟨oc_law_number, od_law_number, .func (PySem.W.fnOf "_law_number" "_law_number" (defArgs s_law_number) (defBody s_law_number) (defScope s_law_number) .none kV_law_number dc_law_number pm_law_number an_law_number cd_law_number ct_law_number), sl_law_number⟩)
    (e_law_number : PySem.W.codeIn K cd_law_number "_law_number" = true)
    (p_law_number : PySem.W.keepIn K (.ref f_law_number) = true)
    (a_law_whole : PySem.W.nsIn K mainGlobals "_law_whole" = some (some (.ref f_law_whole)))
    (l_law_whole : K.lookup f_law_whole = some ⟨oc_law_whole, od_law_whole, .func (PySem.W.fnOf "_law_whole" "_law_whole" (defArgs s_law_whole) (defBody s_law_whole) (defScope s_law_whole) .none kV_law_whole dc_law_whole pm_law_whole an_law_whole cd_law_whole ct_law_whole), sl_law_whole⟩)
    (e_law_whole : PySem.W.codeIn K cd_law_whole "_law_whole" = true)
    (p_law_whole : PySem.W.keepIn K (.ref f_law_whole) = true)
    (a_law_cut : PySem.W.nsIn K mainGlobals "_law_cut" = some (some (.ref f_law_cut)))
    (l_law_cut : K.lookup f_law_cut = some ⟨oc_law_cut, od_law_cut, .func (PySem.W.fnOf "_law_cut" "_law_cut" (defArgs s_law_cut) (defBody s_law_cut) (defScope s_law_cut) .none kV_law_cut dc_law_cut pm_law_cut an_law_cut cd_law_cut ct_law_cut), sl_law_cut⟩)
    (e_law_cut : PySem.W.codeIn K cd_law_cut "_law_cut" = true)
    (p_law_cut : PySem.W.keepIn K (.ref f_law_cut) = true)
    (a_law_sums : PySem.W.nsIn K mainGlobals "_law_sums" = some (some (.ref f_law_sums)))
    (l_law_sums : K.lookup f_law_sums = some ⟨oc_law_sums, od_law_sums, .func (PySem.W.fnOf "_law_sums" "_law_sums" (defArgs s_law_sums) (defBody s_law_sums) (defScope s_law_sums) .none kV_law_sums dc_law_sums pm_law_sums an_law_sums cd_law_sums ct_law_sums), sl_law_sums⟩)
    (e_law_sums : PySem.W.codeIn K cd_law_sums "_law_sums" = true)
    (p_law_sums : PySem.W.keepIn K (.ref f_law_sums) = true)
    (a_law_spread : PySem.W.nsIn K mainGlobals "_law_spread" = some (some (.ref f_law_spread)))
    (l_law_spread : K.lookup f_law_spread = some ⟨oc_law_spread, od_law_spread, .func (PySem.W.fnOf "_law_spread" "_law_spread" (defArgs s_law_spread) (defBody s_law_spread) (defScope s_law_spread) .none kV_law_spread dc_law_spread pm_law_spread an_law_spread cd_law_spread ct_law_spread), sl_law_spread⟩)
    (e_law_spread : PySem.W.codeIn K cd_law_spread "_law_spread" = true)
    (p_law_spread : PySem.W.keepIn K (.ref f_law_spread) = true)
    (a_law_truths : PySem.W.nsIn K mainGlobals "_law_truths" = some (some (.ref f_law_truths)))
    (l_law_truths : K.lookup f_law_truths = some ⟨oc_law_truths, od_law_truths, .func (PySem.W.fnOf "_law_truths" "_law_truths" (defArgs s_law_truths) (defBody s_law_truths) (defScope s_law_truths) .none kV_law_truths dc_law_truths pm_law_truths an_law_truths cd_law_truths ct_law_truths), sl_law_truths⟩)
    (e_law_truths : PySem.W.codeIn K cd_law_truths "_law_truths" = true)
    (p_law_truths : PySem.W.keepIn K (.ref f_law_truths) = true)
    (a_law_begun : PySem.W.nsIn K mainGlobals "_law_begun" = some (some (.ref f_law_begun)))
    (l_law_begun : K.lookup f_law_begun = some ⟨oc_law_begun, od_law_begun, .func (PySem.W.fnOf "_law_begun" "_law_begun" (defArgs s_law_begun) (defBody s_law_begun) (defScope s_law_begun) .none kV_law_begun dc_law_begun pm_law_begun an_law_begun cd_law_begun ct_law_begun), sl_law_begun⟩)
    (e_law_begun : PySem.W.codeIn K cd_law_begun "_law_begun" = true)
    (p_law_begun : PySem.W.keepIn K (.ref f_law_begun) = true)
    (a_law : PySem.W.nsIn K mainGlobals "law" = some (some (.ref f_law)))
    (l_law : K.lookup f_law = some ⟨oc_law, od_law, .func (PySem.W.fnOf "law" "law" (defArgs s_law) (defBody s_law) (defScope s_law) .none kV_law dc_law pm_law an_law cd_law ct_law), sl_law⟩)
    (e_law : PySem.W.codeIn K cd_law "law" = true)
    (p_law : PySem.W.keepIn K (.ref f_law) = true)
    : ∃ fd : FuncData, (∀ (s : Shared) (v : Value), BindsTo s fd ⟨[v], []⟩ [("_law_script", v)]) ∧ ∀ base : Heap, K.In base → base.Ns mainGlobals mg → FnOk l.prog w K mg base (L2.CX l.prog w) 3 fa fd ["_law_script"] (sp1 (R_law K)) := by
  have e := hfa.symm.trans (PySem.W.mg_of X G a_law)
  cases e
  have T : Txt K mg ⟨0, C_Tally, C_Many⟩ := {
    b_bool := ⟨PySem.W.mg_none_of X G b_bool⟩,
    b_int := ⟨PySem.W.mg_none_of X G b_int⟩,
    b_isinstance := ⟨PySem.W.mg_none_of X G b_isinstance⟩,
    b_len := ⟨PySem.W.mg_none_of X G b_len⟩,
    b_min := ⟨PySem.W.mg_none_of X G b_min⟩,
    k_MOST_ROWS := ⟨_, PySem.W.mg_of X G k_MOST_ROWS⟩,
    c_Tally := ⟨PySem.W.mg_of X G g_Tally, ⟨pg_Tally, hd_Tally, po_Tally, sa_Tally⟩, mk_Tally, kc_Tally, ha_Tally, hn_Tally, ht_Tally, hm_Tally, tc_Tally, ic_Tally⟩,
    i_Tally := oi_Tally,
    m_Tally_nothing := ⟨f_m_Tally_nothing, _, ⟨a_m_Tally_nothing, y_m_Tally_nothing, p_m_Tally_nothing⟩, (fun_mk (st := s_Tally_nothing) l_m_Tally_nothing e_m_Tally_nothing p_m_Tally_nothing), ((fun_mk (st := s_Tally_nothing) l_m_Tally_nothing e_m_Tally_nothing p_m_Tally_nothing).binds (ps := ["self"]) fun _ _ _ _ _ _ us hl => match us, hl with | [_], _ => rfl)⟩,
    m_Tally_blank := ⟨f_m_Tally_blank, _, ⟨a_m_Tally_blank, y_m_Tally_blank, p_m_Tally_blank⟩, (fun_mk (st := s_Tally_blank) l_m_Tally_blank e_m_Tally_blank p_m_Tally_blank), ((fun_mk (st := s_Tally_blank) l_m_Tally_blank e_m_Tally_blank p_m_Tally_blank).binds (ps := ["self"]) fun _ _ _ _ _ _ us hl => match us, hl with | [_], _ => rfl)⟩,
    m_Tally_of_rule := ⟨f_m_Tally_of_rule, _, ⟨a_m_Tally_of_rule, y_m_Tally_of_rule, p_m_Tally_of_rule⟩, (fun_mk (st := s_Tally_of_rule) l_m_Tally_of_rule e_m_Tally_of_rule p_m_Tally_of_rule), ((fun_mk (st := s_Tally_of_rule) l_m_Tally_of_rule e_m_Tally_of_rule p_m_Tally_of_rule).binds (ps := ["self", "number", "worth"]) fun _ _ _ _ _ _ us hl => match us, hl with | [_, _, _], _ => rfl)⟩,
    m_Tally_either := ⟨f_m_Tally_either, _, ⟨a_m_Tally_either, y_m_Tally_either, p_m_Tally_either⟩, (fun_mk (st := s_Tally_either) l_m_Tally_either e_m_Tally_either p_m_Tally_either), ((fun_mk (st := s_Tally_either) l_m_Tally_either e_m_Tally_either p_m_Tally_either).binds (ps := ["self", "one", "other"]) fun _ _ _ _ _ _ us hl => match us, hl with | [_, _, _], _ => rfl)⟩,
    m_Tally_both := ⟨f_m_Tally_both, _, ⟨a_m_Tally_both, y_m_Tally_both, p_m_Tally_both⟩, (fun_mk (st := s_Tally_both) l_m_Tally_both e_m_Tally_both p_m_Tally_both), ((fun_mk (st := s_Tally_both) l_m_Tally_both e_m_Tally_both p_m_Tally_both).binds (ps := ["self", "one", "other"]) fun _ _ _ _ _ _ us hl => match us, hl with | [_, _, _], _ => rfl)⟩,
    c_Many := ⟨PySem.W.mg_of X G g_Many, ⟨pg_Many, hd_Many, po_Many, sa_Many⟩, mk_Many, kc_Many, ha_Many, hn_Many, ht_Many, hm_Many, tc_Many, ic_Many⟩,
    i_Many := oi_Many,
    m_Many_nothing := ⟨f_m_Many_nothing, _, ⟨a_m_Many_nothing, y_m_Many_nothing, p_m_Many_nothing⟩, (fun_mk (st := s_Many_nothing) l_m_Many_nothing e_m_Many_nothing p_m_Many_nothing), ((fun_mk (st := s_Many_nothing) l_m_Many_nothing e_m_Many_nothing p_m_Many_nothing).binds (ps := ["self"]) fun _ _ _ _ _ _ us hl => match us, hl with | [_], _ => rfl)⟩,
    m_Many_blank := ⟨f_m_Many_blank, _, ⟨a_m_Many_blank, y_m_Many_blank, p_m_Many_blank⟩, (fun_mk (st := s_Many_blank) l_m_Many_blank e_m_Many_blank p_m_Many_blank), ((fun_mk (st := s_Many_blank) l_m_Many_blank e_m_Many_blank p_m_Many_blank).binds (ps := ["self"]) fun _ _ _ _ _ _ us hl => match us, hl with | [_], _ => rfl)⟩,
    m_Many_of_rule := ⟨f_m_Many_of_rule, _, ⟨a_m_Many_of_rule, y_m_Many_of_rule, p_m_Many_of_rule⟩, (fun_mk (st := s_Many_of_rule) l_m_Many_of_rule e_m_Many_of_rule p_m_Many_of_rule), ((fun_mk (st := s_Many_of_rule) l_m_Many_of_rule e_m_Many_of_rule p_m_Many_of_rule).binds (ps := ["self", "number", "worth"]) fun _ _ _ _ _ _ us hl => match us, hl with | [_, _, _], _ => rfl)⟩,
    m_Many_either := ⟨f_m_Many_either, _, ⟨a_m_Many_either, y_m_Many_either, p_m_Many_either⟩, (fun_mk (st := s_Many_either) l_m_Many_either e_m_Many_either p_m_Many_either), ((fun_mk (st := s_Many_either) l_m_Many_either e_m_Many_either p_m_Many_either).binds (ps := ["self", "one", "other"]) fun _ _ _ _ _ _ us hl => match us, hl with | [_, _, _], _ => rfl)⟩,
    m_Many_both := ⟨f_m_Many_both, _, ⟨a_m_Many_both, y_m_Many_both, p_m_Many_both⟩, (fun_mk (st := s_Many_both) l_m_Many_both e_m_Many_both p_m_Many_both), ((fun_mk (st := s_Many_both) l_m_Many_both e_m_Many_both p_m_Many_both).binds (ps := ["self", "one", "other"]) fun _ _ _ _ _ _ us hl => match us, hl with | [_, _, _], _ => rfl)⟩,
    s_Tally_Many := su_Tally_Many,
    s_Many_Tally := su_Many_Tally,
    f_law_number := ⟨f_law_number, _, PySem.W.mg_of X G a_law_number, (fun_mk (st := s_law_number) l_law_number e_law_number p_law_number), ((fun_mk (st := s_law_number) l_law_number e_law_number p_law_number).binds (ps := ["_law_cell"]) fun _ _ _ _ _ _ us hl => match us, hl with | [_], _ => rfl)⟩,
    f_law_whole := ⟨f_law_whole, _, PySem.W.mg_of X G a_law_whole, (fun_mk (st := s_law_whole) l_law_whole e_law_whole p_law_whole), ((fun_mk (st := s_law_whole) l_law_whole e_law_whole p_law_whole).binds (ps := ["_law_found"]) fun _ _ _ _ _ _ us hl => match us, hl with | [_], _ => rfl)⟩,
    f_law_cut := ⟨f_law_cut, _, PySem.W.mg_of X G a_law_cut, (fun_mk (st := s_law_cut) l_law_cut e_law_cut p_law_cut), ((fun_mk (st := s_law_cut) l_law_cut e_law_cut p_law_cut).binds (ps := ["_law_number_here"]) fun _ _ _ _ _ _ us hl => match us, hl with | [_], _ => rfl)⟩,
    f_law_sums := ⟨f_law_sums, _, PySem.W.mg_of X G a_law_sums, (fun_mk (st := s_law_sums) l_law_sums e_law_sums p_law_sums), ((fun_mk (st := s_law_sums) l_law_sums e_law_sums p_law_sums).binds (ps := ["_law_many", "_law_one", "_law_other"]) fun _ _ _ _ _ _ us hl => match us, hl with | [_, _, _], _ => rfl)⟩,
    f_law_spread := ⟨f_law_spread, _, PySem.W.mg_of X G a_law_spread, (fun_mk (st := s_law_spread) l_law_spread e_law_spread p_law_spread), ((fun_mk (st := s_law_spread) l_law_spread e_law_spread p_law_spread).binds (ps := ["_law_many", "_law_one", "_law_two", "_law_three"]) fun _ _ _ _ _ _ us hl => match us, hl with | [_, _, _, _], _ => rfl)⟩,
    f_law_truths := ⟨f_law_truths, _, PySem.W.mg_of X G a_law_truths, (fun_mk (st := s_law_truths) l_law_truths e_law_truths p_law_truths), ((fun_mk (st := s_law_truths) l_law_truths e_law_truths p_law_truths).binds (ps := ["_law_tally", "_law_one", "_law_other"]) fun _ _ _ _ _ _ us hl => match us, hl with | [_, _, _], _ => rfl)⟩,
    f_law_begun := ⟨f_law_begun, _, PySem.W.mg_of X G a_law_begun, (fun_mk (st := s_law_begun) l_law_begun e_law_begun p_law_begun), ((fun_mk (st := s_law_begun) l_law_begun e_law_begun p_law_begun).binds (ps := ["_law_many", "_law_tally", "_law_cell"]) fun _ _ _ _ _ _ us hl => match us, hl with | [_, _, _], _ => rfl)⟩ }
  exact ⟨PySem.W.fnOf "law" "law" (defArgs s_law) (defBody s_law) (defScope s_law) .none kV_law dc_law pm_law an_law cd_law ct_law, fun s v => .of_eq rfl, fun base _ _ => ok_law (fun_mk (st := s_law) l_law e_law p_law) T⟩
theorem walk {l : PySem.W.OpenLaw} {q : Program} {loose : List Str} {XP : (Str → Option Value) → Heap → Prop} {YP : World → Heap → Prop} {d : DefRec} {K : Params → PySem.W.Frag} (hn : l.most = some 63) (hdf : d.params.defaults = [])
    (hY : ∀ (w : World) (h : Heap), YP w h → (K w.params).In h)
    (F : ∀ (w : World) (mg : Str → Option Value) (fa : Addr) (h : Heap), (K w.params).In h → h.Ns mainGlobals mg → mg d.name = some (.ref fa) →
      ∃ fd : FuncData, (∀ (s : Shared) (u : Value), BindsTo s fd ⟨[u], []⟩ [("_law_script", u)]) ∧ ∀ base : Heap, (K w.params).In base → base.Ns mainGlobals mg → FnOk l.prog w (K w.params) mg base (L2.CX l.prog w) 3 fa fd ["_law_script"] (sp1 (R_law (K w.params)))) :
    PySem.W.WalkO q loose XP YP l.row.toRowW d [] (fun f vs => PySem.call f vs) :=
  L2.walk_of (n := 63) (k := 3) (x := "_law_script") (CX := fun w => L2.CX l.prog w) (sp := fun w => sp1 (R_law (K w.params))) hn (by decide) hdf ⟨rfl, by decide, by decide⟩ hY F (fun _ _ a ns hl _ hS => ⟨_, rfl, a, ns, rfl, hS, hl, fun _ => rfl⟩) fun w H s e s' h => by
    obtain ⟨_, _, _, _, _, _, _, _, _, _, _, _, z⟩ := h
    exact z
end Lw
open PySem PySem.W PyProof.Rows
set_option maxRecDepth 100000 in
set_option maxHeartbeats 0 in
theorem PySem.Challenge.cw_forestread_k40_many_holds : PySem.Challenge.rw_forestread_k40_many.Holds := by
  w_on; o_law; k_head; (case hw => w_witness2)
  k_fill
  refine Lw.walk (l := PySem.Challenge.rw_forestread_k40_many) rfl rfl (fun w h Y => PySem.W.kIn_of Y) ?F
  case F =>
    intro w mg fa h KX G hmg
    refine' Lw.all_mk KX G hmg ?b_bool ?b_int ?b_isinstance ?b_len ?b_min ?k_MOST_ROWS ?g_Tally ?pg_Tally ?hd_Tally ?po_Tally ?sa_Tally ?mk_Tally ?kc_Tally ?ha_Tally ?hn_Tally ?ht_Tally ?hm_Tally ?tc_Tally ?ic_Tally ?oi_Tally ?a_m_Tally_nothing ?y_m_Tally_nothing ?l_m_Tally_nothing ?e_m_Tally_nothing ?p_m_Tally_nothing ?a_m_Tally_blank ?y_m_Tally_blank ?l_m_Tally_blank ?e_m_Tally_blank ?p_m_Tally_blank ?a_m_Tally_of_rule ?y_m_Tally_of_rule ?l_m_Tally_of_rule ?e_m_Tally_of_rule ?p_m_Tally_of_rule ?a_m_Tally_either ?y_m_Tally_either ?l_m_Tally_either ?e_m_Tally_either ?p_m_Tally_either ?a_m_Tally_both ?y_m_Tally_both ?l_m_Tally_both ?e_m_Tally_both ?p_m_Tally_both ?g_Many ?pg_Many ?hd_Many ?po_Many ?sa_Many ?mk_Many ?kc_Many ?ha_Many ?hn_Many ?ht_Many ?hm_Many ?tc_Many ?ic_Many ?oi_Many ?a_m_Many_nothing ?y_m_Many_nothing ?l_m_Many_nothing ?e_m_Many_nothing ?p_m_Many_nothing ?a_m_Many_blank ?y_m_Many_blank ?l_m_Many_blank ?e_m_Many_blank ?p_m_Many_blank ?a_m_Many_of_rule ?y_m_Many_of_rule ?l_m_Many_of_rule ?e_m_Many_of_rule ?p_m_Many_of_rule ?a_m_Many_either ?y_m_Many_either ?l_m_Many_either ?e_m_Many_either ?p_m_Many_either ?a_m_Many_both ?y_m_Many_both ?l_m_Many_both ?e_m_Many_both ?p_m_Many_both ?su_Tally_Many ?su_Many_Tally ?a_law_number ?l_law_number ?e_law_number ?p_law_number ?a_law_whole ?l_law_whole ?e_law_whole ?p_law_whole ?a_law_cut ?l_law_cut ?e_law_cut ?p_law_cut ?a_law_sums ?l_law_sums ?e_law_sums ?p_law_sums ?a_law_spread ?l_law_spread ?e_law_spread ?p_law_spread ?a_law_truths ?l_law_truths ?e_law_truths ?p_law_truths ?a_law_begun ?l_law_begun ?e_law_begun ?p_law_begun ?a_law ?l_law ?e_law ?p_law
    (case b_bool => k_is)
    (case b_int => k_is)
    (case b_isinstance => k_is)
    (case b_len => k_is)
    (case b_min => k_is)
    (case k_MOST_ROWS => k_is)
    (case g_Tally => k_is)
    (case pg_Tally => k_is)
    (case hd_Tally => k_is)
    (case po_Tally => k_is)
    (case sa_Tally => k_is)
    (case mk_Tally => k_is)
    (case kc_Tally => k_is)
    (case ha_Tally => k_is)
    (case hn_Tally => k_is)
    (case ht_Tally => k_is)
    (case hm_Tally => k_is)
    (case tc_Tally => k_is)
    (case ic_Tally => k_is)
    (case oi_Tally => k_is)
    (case a_m_Tally_nothing => k_is)
    (case y_m_Tally_nothing => k_is)
    (case l_m_Tally_nothing => k_is)
    (case e_m_Tally_nothing => k_is)
    (case p_m_Tally_nothing => k_is)
    (case a_m_Tally_blank => k_is)
    (case y_m_Tally_blank => k_is)
    (case l_m_Tally_blank => k_is)
    (case e_m_Tally_blank => k_is)
    (case p_m_Tally_blank => k_is)
    (case a_m_Tally_of_rule => k_is)
    (case y_m_Tally_of_rule => k_is)
    (case l_m_Tally_of_rule => k_is)
    (case e_m_Tally_of_rule => k_is)
    (case p_m_Tally_of_rule => k_is)
    (case a_m_Tally_either => k_is)
    (case y_m_Tally_either => k_is)
    (case l_m_Tally_either => k_is)
    (case e_m_Tally_either => k_is)
    (case p_m_Tally_either => k_is)
    (case a_m_Tally_both => k_is)
    (case y_m_Tally_both => k_is)
    (case l_m_Tally_both => k_is)
    (case e_m_Tally_both => k_is)
    (case p_m_Tally_both => k_is)
    (case g_Many => k_is)
    (case pg_Many => k_is)
    (case hd_Many => k_is)
    (case po_Many => k_is)
    (case sa_Many => k_is)
    (case mk_Many => k_is)
    (case kc_Many => k_is)
    (case ha_Many => k_is)
    (case hn_Many => k_is)
    (case ht_Many => k_is)
    (case hm_Many => k_is)
    (case tc_Many => k_is)
    (case ic_Many => k_is)
    (case oi_Many => k_is)
    (case a_m_Many_nothing => k_is)
    (case y_m_Many_nothing => k_is)
    (case l_m_Many_nothing => k_is)
    (case e_m_Many_nothing => k_is)
    (case p_m_Many_nothing => k_is)
    (case a_m_Many_blank => k_is)
    (case y_m_Many_blank => k_is)
    (case l_m_Many_blank => k_is)
    (case e_m_Many_blank => k_is)
    (case p_m_Many_blank => k_is)
    (case a_m_Many_of_rule => k_is)
    (case y_m_Many_of_rule => k_is)
    (case l_m_Many_of_rule => k_is)
    (case e_m_Many_of_rule => k_is)
    (case p_m_Many_of_rule => k_is)
    (case a_m_Many_either => k_is)
    (case y_m_Many_either => k_is)
    (case l_m_Many_either => k_is)
    (case e_m_Many_either => k_is)
    (case p_m_Many_either => k_is)
    (case a_m_Many_both => k_is)
    (case y_m_Many_both => k_is)
    (case l_m_Many_both => k_is)
    (case e_m_Many_both => k_is)
    (case p_m_Many_both => k_is)
    (case su_Tally_Many => first | k_is | rfl | decide)
    (case su_Many_Tally => first | k_is | rfl | decide)
    (case a_law_number => k_is)
    (case l_law_number => k_is)
    (case e_law_number => k_is)
    (case p_law_number => k_is)
    (case a_law_whole => k_is)
    (case l_law_whole => k_is)
    (case e_law_whole => k_is)
    (case p_law_whole => k_is)
    (case a_law_cut => k_is)
    (case l_law_cut => k_is)
    (case e_law_cut => k_is)
    (case p_law_cut => k_is)
    (case a_law_sums => k_is)
    (case l_law_sums => k_is)
    (case e_law_sums => k_is)
    (case p_law_sums => k_is)
    (case a_law_spread => k_is)
    (case l_law_spread => k_is)
    (case e_law_spread => k_is)
    (case p_law_spread => k_is)
    (case a_law_truths => k_is)
    (case l_law_truths => k_is)
    (case e_law_truths => k_is)
    (case p_law_truths => k_is)
    (case a_law_begun => k_is)
    (case l_law_begun => k_is)
    (case e_law_begun => k_is)
    (case p_law_begun => k_is)
    (case a_law => k_is)
    (case l_law => k_is)
    (case e_law => k_is)
    (case p_law => k_is)
