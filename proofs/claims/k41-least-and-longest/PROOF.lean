import PyProof.Rows.All
import Wide.All
import OpenK.AllK
import Wide.FinOn
import HandS.ForMost
import HandS.ForExc
import HandS.Flow
import HandS.IsInst
import HandS.Wide
import PySem.Challenge.RW_forestread_k41_least_and_longest
set_option Elab.async false
set_option linter.all false
set_option maxRecDepth 100000
set_option maxHeartbeats 2000000
/-! Weakest wishes of the pieces of a text: eW, tW, aW, sW, bW; rules by syntax. -/
namespace G
open PySem PySem.Spec PyProof.Rows L2
structure eW (X : Cx) (e : Expr) (σ : L2.St) (H : Hp) (Q : VK) : Prop where
  run : ∀ pins s, Inv X pins σ H s → wpAny (model X.prog X.w) X.A (eval e X.env) (EP X pins σ Q) X.xe s
structure tW (X : Cx) (e : Expr) (σ : L2.St) (H : Hp) (Q : Bool → Hp → Prop) : Prop where
  run : ∀ pins s, Inv X pins σ H s → wpAny (model X.prog X.w) X.A (isTrue e X.env (eval e X.env)) (TP X pins σ Q) X.xe s
structure cW (X : Cx) (e : Expr) (σ : L2.St) (H : Hp) (Q : Bool → Hp → Prop) : Prop where
  run : ∀ whole pins s, Inv X pins σ H s → wpAny (model X.prog X.w) X.A (isTrue e X.env whole) (TP X pins σ Q) X.xe s
structure aW (X : Cx) (es : List Expr) (σ : L2.St) (H : Hp) (Q : List V → Hp → Prop) : Prop where
  run : ∀ pos pins s, Inv X pins σ H s → wpAny (model X.prog X.w) X.A (spliced (backTo pos (starEach es X.env))) (AP X pins σ Q) X.xe s
structure sW (X : Cx) (st : Stmt) (D : Ends) (σ : L2.St) (H : Hp) : Prop where
  run : ∀ pins s, Inv X pins σ H s → wpAny (model X.prog X.w) X.A (exec st X.env) (SP X pins D) X.xe s
structure bW (X : Cx) (b : List Stmt) (D : Ends) (σ : L2.St) (H : Hp) : Prop where
  run : ∀ pins s, Inv X pins σ H s → wpAny (model X.prog X.w) X.A (execs b X.env) (SP X pins D) X.xe s
structure gW (X : Cx) (e : Expr) (v : V) (σ : L2.St) (H : Hp) (Q : L2.St → Hp → Prop) : Prop where
  run : ∀ pins s u, Inv X pins σ H s → RelV v u → wpAny (model X.prog X.w) X.A (assign e X.env u) (fun _ s' => ∃ σ' H', Inv X pins σ' H' s' ∧ Q σ' H') X.xe s
structure oW (X : Cx) (f : Value → Value → Sem Value) (x y : V) (H : Hp) (Q : VK) : Prop where
  run : ∀ pins s σ v u, Inv X pins σ H s → RelV x v → RelV y u → wpAny (model X.prog X.w) X.A (f v u) (EP X pins σ Q) X.xe s
structure uW (X : Cx) (f : Value → Sem Value) (x : V) (H : Hp) (Q : VK) : Prop where
  run : ∀ pins s σ v, Inv X pins σ H s → RelV x v → wpAny (model X.prog X.w) X.A (f v) (EP X pins σ Q) X.xe s
structure kW (X : Cx) (f : Value) (xs : List V) (H : Hp) (Q : VK) : Prop where
  run : ∀ pins s σ us, Inv X pins σ H s → Vals xs us → wpAny (model X.prog X.w) X.A (call f us) (EP X pins σ Q) X.xe s
section
variable {X : Cx} {e : Expr} {es : List Expr} {st : Stmt} {b : List Stmt}
theorem PEw : PE X e (eW X e) := ⟨fun pins s _ _ _ I h => h.run pins s I⟩
theorem PTw : PT X e (tW X e) := ⟨fun pins s _ _ _ I h => h.run pins s I⟩
theorem PWw : PW X e (cW X e) := ⟨fun wh pins s _ _ _ I h => h.run wh pins s I⟩
theorem PAw : PA X es (aW X es) := ⟨fun pos pins s _ _ _ I h => h.run pos pins s I⟩
theorem PSw : PS X st (sW X st) := ⟨fun pins s _ _ _ I h => h.run pins s I⟩
theorem PBw : PSs X b (bW X b) := ⟨fun pins s _ _ _ I h => h.run pins s I⟩
theorem PGw : PG X e (gW X e) := ⟨fun pins s _ _ v u _ I r h => h.run pins s u I r⟩
theorem OPw {f : Value → Value → Sem Value} : OpR X f (oW X f) := fun pins s σ H x y v u Q I rx ry h => h.run pins s σ v u I rx ry
theorem UNw {f : Value → Sem Value} : UnR X f (uW X f) := fun pins s σ H x v Q I rx h => h.run pins s σ v I rx
theorem KRw {f : Value} : CallR X f (kW X f) := fun pins s σ H xs us Q I r h => h.run pins s σ us I r
theorem eI {t : TE} {σ : L2.St} {H : Hp} {Q : VK} (h : PE X e t) (q : t σ H Q) : eW X e σ H Q := ⟨fun pins s I => h.run pins s σ H Q I q⟩
theorem tI {t : TT} {σ : L2.St} {H : Hp} {Q : Bool → Hp → Prop} (h : PT X e t) (q : t σ H Q) : tW X e σ H Q := ⟨fun pins s I => h.run pins s σ H Q I q⟩
theorem cI {t : TT} {σ : L2.St} {H : Hp} {Q : Bool → Hp → Prop} (h : PW X e t) (q : t σ H Q) : cW X e σ H Q := ⟨fun wh pins s I => h.run wh pins s σ H Q I q⟩
theorem aI {t : TA} {σ : L2.St} {H : Hp} {Q : List V → Hp → Prop} (h : PA X es t) (q : t σ H Q) : aW X es σ H Q := ⟨fun pos pins s I => h.run pos pins s σ H Q I q⟩
theorem sI {t : TS} {D : Ends} {σ : L2.St} {H : Hp} (h : PS X st t) (q : t D σ H) : sW X st D σ H := ⟨fun pins s I => h.run pins s σ H D I q⟩
theorem bI {t : TS} {D : Ends} {σ : L2.St} {H : Hp} (h : PSs X b t) (q : t D σ H) : bW X b D σ H := ⟨fun pins s I => h.run pins s σ H D I q⟩
theorem gI {t : TG} {v : V} {σ : L2.St} {H : Hp} {Q : L2.St → Hp → Prop} (h : PG X e t) (q : t v σ H Q) : gW X e v σ H Q := ⟨fun pins s u I r => h.run pins s σ H v u Q I r q⟩
theorem oI {f : Value → Value → Sem Value} {r : R2} {x y : V} {H : Hp} {Q : VK} (h : OpR X f r) (q : r x y H Q) : oW X f x y H Q := ⟨fun pins s σ v u I rx ry => h pins s σ H x y v u Q I rx ry q⟩
theorem uI {f : Value → Sem Value} {r : V → Hp → VK → Prop} {x : V} {H : Hp} {Q : VK} (h : UnR X f r) (q : r x H Q) : uW X f x H Q := ⟨fun pins s σ v I rx => h pins s σ H x v Q I rx q⟩
theorem kI {f : Value} {r : List V → Hp → VK → Prop} {xs : List V} {H : Hp} {Q : VK} (h : CallR X f r) (q : r xs H Q) : kW X f xs H Q := ⟨fun pins s σ us I rx => h pins s σ H xs us Q I rx q⟩
theorem eMono {σ : L2.St} {H : Hp} {Q Q' : VK} (h : eW X e σ H Q) (i : ∀ v H', Q v H' → Q' v H') : eW X e σ H Q' := ⟨fun pins s I => wpAny_mono (h.run pins s I) (fun _ _ ⟨v, H', a, b, c⟩ => ⟨v, H', a, b, i v H' c⟩) fun _ _ x => x⟩
theorem tMono {σ : L2.St} {H : Hp} {Q Q' : Bool → Hp → Prop} (h : tW X e σ H Q) (i : ∀ v H', Q v H' → Q' v H') : tW X e σ H Q' := ⟨fun pins s I => wpAny_mono (h.run pins s I) (fun _ _ ⟨H', a, c⟩ => ⟨H', a, i _ H' c⟩) fun _ _ x => x⟩
end

/-! ### what a context tells -/
def cxr (P : Program) (w : World) (K : PySem.W.Frag) (mg : Str → Option Value) (base : Heap) (N : List Str) (q : Str) (st : Stmt) (f : Addr) (cd : Value) (A : Around) (outer : List Env) (s : Shared) (H : Hp) (E : XK) : Cx := cxOf (L2.CX P w) P w K mg base N q (defScope st) f cd A outer s H E
class CxN (X : Cx) (N : outParam (List Str)) : Prop where h : X.N = N
class CxK (X : Cx) (K : outParam PySem.W.Frag) : Prop where h : X.K = K
class CxM (X : Cx) (mg : outParam (Str → Option Value)) : Prop where h : X.mg = mg
class CxC (X : Cx) : Prop where h : X.calm = true
class CxO (X : Cx) : Prop where h : PassesOwn (model X.prog X.w) X.A X.env X.xe
class CxT (X : Cx) (W : outParam WX) : Prop where h : Takes X W
/-- the slot of a name -/
class Slt (N : List Str) (x : Str) (i : outParam Nat) : Prop where h : N[i]? = some x
instance (priority := high) slt0 {x : Str} {N : List Str} : Slt (x :: N) x 0 := ⟨rfl⟩
instance slt1 {x y : Str} {N : List Str} {i : Nat} [s : Slt N x i] : Slt (y :: N) x (i + 1) := ⟨s.h⟩
class Blt (x : Str) (v : outParam Value) : Prop where h : bootBuiltins x = some v
instance : Blt "len" (.builtin "len") := ⟨boot_len⟩
instance : Blt "isinstance" (.builtin "isinstance") := ⟨boot_isinstance⟩
instance : Blt "min" (.builtin "min") := ⟨boot_min⟩
instance : Blt "max" (.builtin "max") := ⟨boot_max⟩
instance : Blt "sorted" (.builtin "sorted") := ⟨boot_sorted⟩
instance : Blt "sum" (.builtin "sum") := ⟨boot_sum⟩
instance : Blt "any" (.builtin "any") := ⟨boot_any⟩
instance : Blt "all" (.builtin "all") := ⟨boot_all⟩
instance : Blt "abs" (.builtin "abs") := ⟨boot_abs⟩
instance : Blt "ord" (.builtin "ord") := ⟨boot_ord⟩
instance : Blt "chr" (.builtin "chr") := ⟨boot_chr⟩
instance : Blt "range" (.type "range") := ⟨boot_range⟩
instance : Blt "list" (.type "list") := ⟨boot_list⟩
instance : Blt "tuple" (.type "tuple") := ⟨boot_tuple⟩
instance : Blt "int" (.type "int") := ⟨boot_int⟩
instance : Blt "str" (.type "str") := ⟨boot_str⟩
instance : Blt "bool" (.type "bool") := ⟨boot_bool⟩
instance : Blt "set" (.type "set") := ⟨boot_set⟩
instance : Blt "dict" (.type "dict") := ⟨boot_dict⟩
instance : Blt "enumerate" (.type "enumerate") := ⟨boot_enumerate⟩
instance : Blt "zip" (.type "zip") := ⟨boot_zip⟩
instance : Blt "reversed" (.type "reversed") := ⟨boot_reversed⟩
instance : Blt "ValueError" (.type "ValueError") := ⟨by decide +kernel⟩
/-- what a name of the module holds -/
class Gn (mg : Str → Option Value) (x : Str) (v : outParam (Option Value)) : Prop where h : mg x = v
section
variable {P : Program} {w : World} {K : PySem.W.Frag} {mg : Str → Option Value} {base : Heap} {N : List Str} {q : Str} {st : Stmt} {f : Addr} {cd : Value} {A : Around} {outer : List Env} {s : Shared} {H : Hp} {E : XK}
instance : CxN (cxr P w K mg base N q st f cd A outer s H E) N := ⟨rfl⟩
instance : CxK (cxr P w K mg base N q st f cd A outer s H E) K := ⟨rfl⟩
instance : CxM (cxr P w K mg base N q st f cd A outer s H E) mg := ⟨rfl⟩
instance : CxC (cxr P w K mg base N q st f cd A outer s H E) := ⟨rfl⟩
instance : CxO (cxr P w K mg base N q st f cd A outer s H E) := ⟨passes_of (X := cxr P w K mg base N q st f cd A outer s H E) rfl⟩
instance : CxT (cxr P w K mg base N q st f cd A outer s H E) (fun cls d _ H => E cls d H) := ⟨takes_of (X := cxr P w K mg base N q st f cd A outer s H E) rfl rfl rfl rfl⟩
end
section
variable {X : Cx} {s : Shared} {H : Hp} {sc : Scope} {ce : Env} {fp : List Addr} {pn : List (Addr × Obj)} {xe : Value → Shared → Prop} {a : Addr}
instance {N : List Str} [c : CxN X N] : CxN (X.blk s H sc ce fp) N := ⟨c.h⟩
instance {K : PySem.W.Frag} [c : CxK X K] : CxK (X.blk s H sc ce fp) K := ⟨c.h⟩
instance {mg : Str → Option Value} [c : CxM X mg] : CxM (X.blk s H sc ce fp) mg := ⟨c.h⟩
instance [c : CxC X] : CxC (X.blk s H sc ce fp) := ⟨c.h⟩
instance : CxT (X.blk s H sc ce fp) (fun _ _ _ _ => False) := ⟨takes0⟩
instance {N : List Str} [c : CxN X N] : CxN (X.tr pn xe) N := ⟨c.h⟩
instance {K : PySem.W.Frag} [c : CxK X K] : CxK (X.tr pn xe) K := ⟨c.h⟩
instance {mg : Str → Option Value} [c : CxM X mg] : CxM (X.tr pn xe) mg := ⟨c.h⟩
instance [c : CxC X] : CxC (X.tr pn xe) := ⟨c.h⟩
instance {N : List Str} [c : CxN X N] : CxN (X.suite a pn) N := ⟨c.h⟩
instance {K : PySem.W.Frag} [c : CxK X K] : CxK (X.suite a pn) K := ⟨c.h⟩
instance {mg : Str → Option Value} [c : CxM X mg] : CxM (X.suite a pn) mg := ⟨c.h⟩
end

/-! ### expressions -/
section
variable {X : Cx} {σ : L2.St} {H : Hp} {Q : VK} {pos p2 p3 p4 : Pos} {a b c : Expr} {rest : List Expr}
theorem e_var {N : List Str} {x : Str} {i : Nat} {v : V} [cn : CxN X N] [sl : Slt N x i] (hs : σ[i]? = some (some v)) (q : Q v H)
    (hv : Vis X.env.scope x := by first | exact Or.inl rfl | exact Or.inr (Or.inl rfl) | exact Or.inr (Or.inr rfl)) (hd : (x == ("__debug__" : Str)) = false := by decide) (hcd : (x == ("__classdict__" : Str)) = false := by decide) : eW X (.Name x pos) σ H Q :=
  eI (pe_var (i := i) (by rw [cn.h]; exact sl.h) hv hd hcd) ⟨v, hs, q⟩
theorem e_int {i : Int} {j : Nat} (q : Q (.int i) H) : eW X (.Constant (.int i) j pos) σ H Q := eI pe_int q
theorem e_bl {i : Bool} {j : Nat} (q : Q (.bl i) H) : eW X (.Constant (.bool i) j pos) σ H Q := eI pe_bl q
theorem e_non {j : Nat} (q : Q .non H) : eW X (.Constant .none j pos) σ H Q := eI pe_non q
theorem e_str {x : Str} {j : Nat} (q : Q (.str x) H) : eW X (.Constant (.str x) j pos) σ H Q := eI pe_str q
theorem e_glob {mg : Str → Option Value} {x : Str} {u : Value} {v : V} [cm : CxM X mg] [g : Gn mg x (some u)] (r : RelV v u) (q : Q v H) (hg : Gl X x := by rfl) (hd : (x == ("__debug__" : Str)) = false := by decide) : eW X (.Name x pos) σ H Q :=
  eI (pe_glob hg (by rw [cm.h]; exact g.h) r hd) q
theorem e_globR {mg : Str → Option Value} {x : Str} {f : Addr} [cm : CxM X mg] [g : Gn mg x (some (.ref f))] (q : Q (.ref f) H) (hg : Gl X x := by rfl) (hd : (x == ("__debug__" : Str)) = false := by decide) : eW X (.Name x pos) σ H Q :=
  eI (pe_glob (v := .ref f) hg (by rw [cm.h]; exact g.h) rfl hd) q
theorem e_globI {mg : Str → Option Value} {x : Str} {i : Int} {t : Tok} [cm : CxM X mg] [g : Gn mg x (some (.int i t))] (q : Q (.int i) H) (hg : Gl X x := by rfl) (hd : (x == ("__debug__" : Str)) = false := by decide) : eW X (.Name x pos) σ H Q :=
  eI (pe_glob (v := .int i) hg (by rw [cm.h]; exact g.h) ⟨_, rfl⟩ hd) q
theorem e_globS {mg : Str → Option Value} {x : Str} {i : Str} {t : Tok} [cm : CxM X mg] [g : Gn mg x (some (.str i t))] (q : Q (.str i) H) (hg : Gl X x := by rfl) (hd : (x == ("__debug__" : Str)) = false := by decide) : eW X (.Name x pos) σ H Q :=
  eI (pe_glob (v := .str i) hg (by rw [cm.h]; exact g.h) ⟨_, rfl⟩ hd) q
theorem e_ty {mg : Str → Option Value} {x : Str} {n : String} [cm : CxM X mg] [g : Gn mg x none] [bl : Blt x (.type n)] (q : Q (.ty n) H) (hg : Gl X x := by rfl) (hn : x ≠ "__name__" := by decide) (hd : (x == ("__debug__" : Str)) = false := by decide) : eW X (.Name x pos) σ H Q :=
  eI (pe_bltn (v := .ty n) hg (by rw [cm.h]; exact g.h) bl.h rfl hn hd) q
theorem e_bin {op : Operator} (h : eW X a σ H fun x H1 => eW X b σ H1 fun y H2 => oW X (binaryOp op) x y H2 Q) : eW X (.BinOp a op b pos) σ H Q := eI (pe_op OPw PEw PEw) h
theorem e_un {op : UnaryOp} (h : eW X a σ H fun x H1 => uW X (unaryOp op) x H1 Q) : eW X (.UnaryOp op a pos) σ H Q := eI (pe_un UNw PEw) h
theorem e_cmp {op : CmpOp} (h : eW X a σ H fun x H1 => eW X b σ H1 fun y H2 => oW X (compareOp op) x y H2 Q) (hm : behindInMarks op b = false := by first | exact nomark _ | rfl) : eW X (.Compare a [op] [b] pos) σ H Q := eI (pe_cmpR OPw PEw PEw hm) h
theorem e_isN {j : Nat} (h : eW X a σ H fun x H1 => Q (.bl (decide (x = .non))) H1) : eW X (.Compare a [.Is] [.Constant .none j p2] pos) σ H Q := eI (pe_cmp (pc_isN PEw) rfl) h
theorem e_notN {j : Nat} (h : eW X a σ H fun x H1 => Q (.bl (!decide (x = .non))) H1) : eW X (.Compare a [.IsNot] [.Constant .none j p2] pos) σ H Q := eI (pe_cmp (pc_notN PEw) rfl) h
theorem e_ifE {t : Expr} (h : tW X t σ H fun k H1 => if k = true then eW X a σ H1 Q else eW X b σ H1 Q) : eW X (.IfExp t a b pos) σ H Q := eI (pe_ifExp PTw PEw PEw) h
theorem e_one {op : BoolOp} (h : eW X a σ H Q) : eW X (.BoolOp op [a] pos) σ H Q := eI (pe_one PEw) h
theorem e_and (h : eW X a σ H fun x H1 => ∃ k, x = .bl k ∧ if k = true then eW X (.BoolOp .And (b :: rest) pos) σ H1 Q else Q (.bl false) H1) : eW X (.BoolOp .And (a :: b :: rest) pos) σ H Q := eI (pe_and PEw PEw) h
theorem e_or (h : eW X a σ H fun x H1 => ∃ k, x = .bl k ∧ if k = true then Q (.bl true) H1 else eW X (.BoolOp .Or (b :: rest) pos) σ H1 Q) : eW X (.BoolOp .Or (a :: b :: rest) pos) σ H Q := eI (pe_or PEw PEw) h
theorem e_not (h : eW X a σ H fun x H1 => ∃ k, x = .bl k ∧ Q (.bl (!k)) H1) : eW X (.UnaryOp .Not a pos) σ H Q := eI (pe_not PEw) h
theorem e_tup {es : List Expr} {k : Nat} (h : aW X es σ H fun xs H1 => xs.length ≤ sizeLine ∧ ∀ p, H1 p = none → Q (.ref p) (upd H1 p (.tup xs))) : eW X (.Tuple es k pos) σ H Q := eI (pe_tup PAw) h
theorem e_lst {es : List Expr} (h : aW X es σ H fun xs H1 => xs.length ≤ sizeLine ∧ ∀ p, H1 p = none → Q (.ref p) (upd H1 p (.lst xs))) : eW X (.List es pos) σ H Q := eI (pe_lst PAw) h
/-- and, or of two truths whose joint answer is told -/
theorem e_andJ {d : Bool} (h : eW X a σ H fun x H1 => ∃ k, x = .bl k ∧ (k = true → ∀ Q' : VK, Q' (.bl d) H1 → eW X (.BoolOp .And (b :: rest) pos) σ H1 Q') ∧ Q (.bl (k && d)) H1) : eW X (.BoolOp .And (a :: b :: rest) pos) σ H Q :=
  e_and (eMono h fun x H1 ⟨k, e, h1, h2⟩ => ⟨k, e, by cases k with | true => exact (h1 rfl _ h2) | false => exact h2⟩)
theorem e_orJ {d : Bool} (h : eW X a σ H fun x H1 => ∃ k, x = .bl k ∧ (k = false → ∀ Q' : VK, Q' (.bl d) H1 → eW X (.BoolOp .Or (b :: rest) pos) σ H1 Q') ∧ Q (.bl (k || d)) H1) : eW X (.BoolOp .Or (a :: b :: rest) pos) σ H Q :=
  e_or (eMono h fun x H1 ⟨k, e, h1, h2⟩ => ⟨k, e, by cases k with | true => exact h2 | false => exact (h1 rfl _ h2)⟩)
/-- a chain of two comparisons -/
theorem e_chain {op op' : CmpOp} (h : tChain (oW X (compareOp op)) (oW X (compareOp op')) (eW X a) (eW X b) (eW X c) σ H Q)
    (hp : PE X (.Compare a [op, op'] [b, c] pos) (tChain (oW X (compareOp op)) (oW X (compareOp op')) (eW X a) (eW X b) (eW X c)) := by exact pe_chain OPw OPw PEw PEw PEw) : eW X (.Compare a [op, op'] [b, c] pos) σ H Q := eI hp h

/-! ### arguments -/
theorem a_nil {R : List V → Hp → Prop} (h : R [] H) : aW X [] σ H R := aI pa_nil h
theorem a_cons {es : List Expr} {R : List V → Hp → Prop} (h : eW X a σ H fun x H1 => aW X es σ H1 fun xs H2 => R (x :: xs) H2) (hs : starEach (a :: es) X.env = (false, eval a X.env) :: starEach es X.env := by rfl) : aW X (a :: es) σ H R := aI (pa_cons PEw PAw hs) h

/-! ### tests -/
variable {R : Bool → Hp → Prop}
theorem t_val {e : Expr} (h : eW X e σ H fun x H1 => ∃ k, x = .bl k ∧ R k H1) (he : ∀ whole, isTrue e X.env whole = (do let v ← whole; standAt e.pos; holding [v] (truthy v)) := by intro _; rfl) : tW X e σ H R := tI (pt_val PEw he) h
theorem t_tru {e : Expr} (h : eW X e σ H fun x H1 => ∃ k, TruV X.K x H1 k ∧ R k H1) (he : ∀ whole, isTrue e X.env whole = (do let v ← whole; standAt e.pos; holding [v] (truthy v)) := by intro _; rfl) : tW X e σ H R := tI (pt_truth PEw he) h
theorem t_cmp {op : CmpOp} (h : eW X a σ H fun x H1 => eW X b σ H1 fun y H2 => oW X (compareOp op) x y H2 fun z H3 => ∃ k, z = .bl k ∧ R k H3) (hm : behindInMarks op b = false := by first | exact nomark _ | rfl) : tW X (.Compare a [op] [b] pos) σ H R := tI (pt_cmpR OPw PEw PEw hm) h
theorem t_isN {j : Nat} (h : eW X a σ H fun x H1 => R (decide (x = .non)) H1) : tW X (.Compare a [.Is] [.Constant .none j p2] pos) σ H R := tI (pt_cmp (pc_isN PEw) rfl) (eMono h fun _ _ q => ⟨_, rfl, q⟩)
theorem t_notN {j : Nat} (h : eW X a σ H fun x H1 => R (!decide (x = .non)) H1) : tW X (.Compare a [.IsNot] [.Constant .none j p2] pos) σ H R := tI (pt_cmp (pc_notN PEw) rfl) (eMono h fun _ _ q => ⟨_, rfl, q⟩)
theorem t_not (h : tW X a σ H fun k H1 => R (!k) H1) : tW X (.UnaryOp .Not a pos) σ H R := tI (pt_not PTw) h
theorem t_and (h : cW X (.BoolOp .And rest pos) σ H R) : tW X (.BoolOp .And rest pos) σ H R := tI (PWw).pt h
theorem t_or (h : cW X (.BoolOp .Or rest pos) σ H R) : tW X (.BoolOp .Or rest pos) σ H R := tI (PWw).pt h
theorem c_and1 (h : tW X a σ H R) : cW X (.BoolOp .And [a] pos) σ H R := cI (pw_and1 PTw) h
theorem c_or1 (h : tW X a σ H R) : cW X (.BoolOp .Or [a] pos) σ H R := cI (pw_or1 PTw) h
theorem c_and (h : tW X a σ H fun k H1 => if k = true then cW X (.BoolOp .And (b :: rest) pos) σ H1 R else R false H1) : cW X (.BoolOp .And (a :: b :: rest) pos) σ H R := cI (pw_and PTw PWw) h
theorem c_or (h : tW X a σ H fun k H1 => if k = true then R true H1 else cW X (.BoolOp .Or (b :: rest) pos) σ H1 R) : cW X (.BoolOp .Or (a :: b :: rest) pos) σ H R := cI (pw_or PTw PWw) h
/-- .. joined: the answer of both is told -/
theorem c_andJ {d : Bool} (h : tW X a σ H fun k H1 => (k = true → ∀ R' : Bool → Hp → Prop, R' d H1 → cW X (.BoolOp .And (b :: rest) pos) σ H1 R') ∧ R (k && d) H1) : cW X (.BoolOp .And (a :: b :: rest) pos) σ H R :=
  c_and (tMono h fun k H1 ⟨h1, h2⟩ => by cases k with | true => exact (h1 rfl _ h2) | false => exact h2)
theorem c_orJ {d : Bool} (h : tW X a σ H fun k H1 => (k = false → ∀ R' : Bool → Hp → Prop, R' d H1 → cW X (.BoolOp .Or (b :: rest) pos) σ H1 R') ∧ R (k || d) H1) : cW X (.BoolOp .Or (a :: b :: rest) pos) σ H R :=
  c_or (tMono h fun k H1 ⟨h1, h2⟩ => by cases k with | true => exact h2 | false => exact (h1 rfl _ h2))
end

/-! ### statements -/
section
variable {X : Cx} {σ : L2.St} {H : Hp} {D : Ends} {pos p2 p3 p4 : Pos} {e it tg : Expr} {st : Stmt} {body more : List Stmt}
theorem b_nil (h : D.nx σ H) : bW X [] D σ H := bI pss_nil h
theorem b_cons (h : sW X st { D with nx := bW X more D } σ H) : bW X (st :: more) D σ H := bI (pss_cons PSw PBw) h
theorem b_one (h : sW X st D σ H) : bW X [st] D σ H := bI (pss_one PSw) h
theorem s_ret (h : eW X e σ H D.rt) : sW X (.Return (some e) pos) D σ H := sI (ps_ret PEw) h
theorem s_retN (h : D.rt .non H) : sW X (.Return none pos) D σ H := sI ps_retN h
theorem s_pass (h : D.nx σ H) : sW X (.Pass pos) D σ H := sI ps_pass h
theorem s_brk (h : D.bk σ H) : sW X (.Break pos) D σ H := sI ps_break h
theorem s_cont (h : D.ct σ H) : sW X (.Continue pos) D σ H := sI ps_continue h
theorem s_expr (h : eW X e σ H fun _ H1 => D.nx σ H1) (hs : swapsWith e none pos.line X.env = pure false := by rfl) : sW X (.Expr e pos) D σ H := sI (ps_expr PEw hs) h
theorem s_if {t : Expr} {x y : List Stmt} (h : tW X t σ H fun k H1 => if k = true then bW X x D σ H1 else bW X y D σ H1) : sW X (.If t x y pos) D σ H := sI (ps_if PTw PBw PBw) h
class NdN (N : List Str) : Prop where h : N.Nodup
theorem s_set {N : List Str} {x : Str} {i : Nat} [cn : CxN X N] [sl : Slt N x i] [nd : NdN N] (h : eW X e σ H fun v H1 => D.nx (σ.set i (some v)) H1) (hx : Loc X.env.scope x := by first | exact Or.inl rfl | exact Or.inr rfl) (hs : swapsWith e (some (.Name x p2)) pos.line X.env = pure false := by rfl)
    (hf : X.fn x = true ∨ X.env.scope.names.lookup x = some .local := by first | exact .inl rfl | exact .inr rfl | assumption) : sW X (.Assign [.Name x p2] e pos) D σ H :=
  sI (ps_set (i := i) (by rw [cn.h]; exact nd.h) (by rw [cn.h]; exact sl.h) hx PEw hs hf) h
theorem g_name {N : List Str} {x : Str} {i : Nat} {v : V} {Q : L2.St → Hp → Prop} [cn : CxN X N] [sl : Slt N x i] [nd : NdN N] (h : Q (σ.set i (some v)) H) (hx : Loc X.env.scope x := by first | exact Or.inl rfl | exact Or.inr rfl)
    (hf : X.fn x = true ∨ X.env.scope.names.lookup x = some .local := by first | exact .inl rfl | exact .inr rfl | assumption) : gW X (.Name x pos) v σ H Q :=
  gI (pg_name (i := i) (by rw [cn.h]; exact nd.h) (by rw [cn.h]; exact sl.h) hx hf) h
theorem s_asg (h : eW X e σ H fun v H1 => gW X tg v σ H1 D.nx) (hs : swapsWithSole [tg] e pos.line X.env = pure false := by rfl) (hw : swappedStores [tg] e X.env = pure none := by rfl)
    (h1 : (assignEach [tg] X.env).map (·.2) = [assign tg X.env] := by rfl) : sW X (.Assign [tg] e pos) D σ H := sI (ps_asg PEw PGw hs hw h1) h
/-- while: W by what is left -/
theorem s_while {c : Expr} [ow : CxO X] (W : Nat → L2.St → Hp → Prop) (m : Nat) (h0 : W m σ H)
    (h : ∀ m σ H, W m σ H → tW X c σ H fun b H1 => if b = true then bW X body { D with nx := fun σ' H' => ∃ m', m' < m ∧ W m' σ' H', ct := fun σ' H' => ∃ m', m' < m ∧ W m' σ' H', bk := D.nx } σ H1 else D.nx σ H1) : sW X (.While c body [] pos) D σ H :=
  sI (ps_while ow.h PTw PBw) ⟨W, ⟨m, h0⟩, fun m σ H w => tMono (h m σ H w) fun b H1 q => by
    cases b with
    | true => exact ⟨_, fun _ _ z => z, q⟩
    | false => exact q⟩
theorem s_forL [ow : CxO X] [cc : CxC X] (h : eW X it σ H fun x H1 => ∃ a xs, x = .ref a ∧ SqL X.K H1 a xs ∧ ∃ Pv : Nat → L2.St → Hp → Prop, Pv 0 σ H1 ∧ (∀ i σ' H', i ≤ xs.length → Pv i σ' H' → SqL X.K H' a xs) ∧
      (∀ i v σ' H', xs[i]? = some v → Pv i σ' H' → gW X tg v σ' H' fun σ2 H2 => bW X body { D with nx := Pv (i + 1), ct := Pv (i + 1), bk := D.nx } σ2 H2) ∧ ∀ σ' H', Pv xs.length σ' H' → D.nx σ' H') (hs : ∀ x, foldedSetIterable it X.env x = pure x := by intro _; rfl) : sW X (.For tg it body [] pos) D σ H :=
  sI (ps_for ow.h cc.h (pi_list PEw) PGw PBw hs) (eMono h fun x H1 ⟨a, xs, e1, e2, Pv, q0, q1, q2, q3⟩ => ⟨a, e1, ⟨xs, e2⟩, for_list (K := X.K) (a := a) (xs := xs) Pv q0 q1 q2 q3⟩)
theorem s_forT [ow : CxO X] [cc : CxC X] (h : eW X it σ H fun x H1 => ∃ a xs, x = .ref a ∧ SqT X.K H1 a xs ∧ ∃ Pv : Nat → L2.St → Hp → Prop, Pv 0 σ H1 ∧ (∀ i σ' H', i ≤ xs.length → Pv i σ' H' → SqT X.K H' a xs) ∧
      (∀ i v σ' H', xs[i]? = some v → Pv i σ' H' → gW X tg v σ' H' fun σ2 H2 => bW X body { D with nx := Pv (i + 1), ct := Pv (i + 1), bk := D.nx } σ2 H2) ∧ ∀ σ' H', Pv xs.length σ' H' → D.nx σ' H') (hs : ∀ x, foldedSetIterable it X.env x = pure x := by intro _; rfl) : sW X (.For tg it body [] pos) D σ H :=
  sI (ps_for ow.h cc.h (pi_tup PEw) PGw PBw hs) (eMono h fun x H1 ⟨a, xs, e1, e2, Pv, q0, q1, q2, q3⟩ => ⟨a, e1, ⟨xs, e2⟩, for_tup (K := X.K) (a := a) (xs := xs) Pv q0 q1 q2 q3⟩)
end

/-! ### values -/
section
variable {X : Cx} {H : Hp} {Q : VK} {i j : Int} {k l : Bool} {x y : V} {z u : Str}
theorem o_add (q : Q (.int (i + j)) H) : oW X (binaryOp .Add) (.int i) (.int j) H Q := oI op_add ⟨_, _, rfl, rfl, q⟩
theorem o_sub (q : Q (.int (i - j)) H) : oW X (binaryOp .Sub) (.int i) (.int j) H Q := oI op_sub ⟨_, _, rfl, rfl, q⟩
theorem o_mul (h : CMulW i j) (q : Q (.int (i * j)) H) : oW X (binaryOp .Mult) (.int i) (.int j) H Q := oI op_mulW ⟨_, _, rfl, rfl, h, q⟩
theorem o_mulS (h : CMul i j) (q : Q (.int (i * j)) H) : oW X (binaryOp .Mult) (.int i) (.int j) H Q := oI op_mul ⟨_, _, rfl, rfl, h, q⟩
theorem o_mod (h : 0 < j) (q : Q (.int (i % j)) H) : oW X (binaryOp .Mod) (.int i) (.int j) H Q := oI op_mod ⟨_, _, rfl, rfl, h, q⟩
theorem o_div (h : CDiv i j) (q : Q (.int (i / j)) H) : oW X (binaryOp .FloorDiv) (.int i) (.int j) H Q := oI op_fdiv ⟨_, _, rfl, rfl, h, q⟩
theorem o_pow (h : CPow i j) (q : Q (.int (i ^ j.toNat)) H) : oW X (binaryOp .Pow) (.int i) (.int j) H Q := oI op_pow ⟨_, _, rfl, rfl, h, q⟩
theorem o_cat (h : z.length + u.length ≤ sizeLine) (q : Q (.str (z ++ u)) H) : oW X (binaryOp .Add) (.str z) (.str u) H Q := oI op_add_str ⟨_, _, rfl, rfl, h, q⟩
theorem o_lt (q : Q (.bl (decide (i < j))) H) : oW X (compareOp .Lt) (.int i) (.int j) H Q := oI op_lt ⟨_, _, rfl, rfl, q⟩
theorem o_le (q : Q (.bl (decide (i ≤ j))) H) : oW X (compareOp .LtE) (.int i) (.int j) H Q := oI op_le ⟨_, _, rfl, rfl, q⟩
theorem o_gt (q : Q (.bl (decide (j < i))) H) : oW X (compareOp .Gt) (.int i) (.int j) H Q := oI op_gt ⟨_, _, rfl, rfl, q⟩
theorem o_ge (q : Q (.bl (decide (j ≤ i))) H) : oW X (compareOp .GtE) (.int i) (.int j) H Q := oI op_ge ⟨_, _, rfl, rfl, q⟩
theorem o_eqI (q : Q (.bl (decide (i = j))) H) : oW X (compareOp .Eq) (.int i) (.int j) H Q := oI op_eq ⟨rfl, by rw [show decide (V.int i = V.int j) = decide (i = j) from decide_eq_decide.mpr ⟨fun e => V.int.inj e, fun e => by rw [e]⟩]; exact q⟩
theorem o_neI (q : Q (.bl (!decide (i = j))) H) : oW X (compareOp .NotEq) (.int i) (.int j) H Q := oI op_ne ⟨rfl, by rw [show decide (V.int i = V.int j) = decide (i = j) from decide_eq_decide.mpr ⟨fun e => V.int.inj e, fun e => by rw [e]⟩]; exact q⟩
theorem o_eqS (q : Q (.bl (decide (z = u))) H) : oW X (compareOp .Eq) (.str z) (.str u) H Q := oI op_eq ⟨rfl, by rw [show decide (V.str z = V.str u) = decide (z = u) from decide_eq_decide.mpr ⟨fun e => V.str.inj e, fun e => by rw [e]⟩]; exact q⟩
theorem o_neS (q : Q (.bl (!decide (z = u))) H) : oW X (compareOp .NotEq) (.str z) (.str u) H Q := oI op_ne ⟨rfl, by rw [show decide (V.str z = V.str u) = decide (z = u) from decide_eq_decide.mpr ⟨fun e => V.str.inj e, fun e => by rw [e]⟩]; exact q⟩
theorem o_eqB (q : Q (.bl (decide (k = l))) H) : oW X (compareOp .Eq) (.bl k) (.bl l) H Q := oI op_eq ⟨rfl, by rw [show decide (V.bl k = V.bl l) = decide (k = l) from decide_eq_decide.mpr ⟨fun e => V.bl.inj e, fun e => by rw [e]⟩]; exact q⟩
theorem o_neB (q : Q (.bl (!decide (k = l))) H) : oW X (compareOp .NotEq) (.bl k) (.bl l) H Q := oI op_ne ⟨rfl, by rw [show decide (V.bl k = V.bl l) = decide (k = l) from decide_eq_decide.mpr ⟨fun e => V.bl.inj e, fun e => by rw [e]⟩]; exact q⟩
theorem u_neg (q : Q (.int (-i)) H) : uW X (unaryOp .USub) (.int i) H Q := uI un_neg ⟨_, rfl, q⟩
end
theorem iteD {p : Prop} [Decidable p] {A B : Prop} (h1 : p → A) (h2 : ¬ p → B) : if decide p = true then A else B := by
  by_cases h : p
  · rw [if_pos (decide_eq_true h)]; exact h1 h
  · rw [decide_eq_false h, if_neg Bool.false_ne_true]; exact h2 h
theorem iteND {p : Prop} [Decidable p] {A B : Prop} (h1 : ¬ p → A) (h2 : p → B) : if (!decide p) = true then A else B := by
  by_cases h : p
  · rw [decide_eq_true h]; exact iteF (h2 h)
  · rw [decide_eq_false h]; exact iteT (h1 h)
theorem iteB {k : Bool} {A B : Prop} (h1 : k = true → A) (h2 : k = false → B) : if k = true then A else B := by
  cases k with
  | true => exact iteT (h1 rfl)
  | false => exact iteF (h2 rfl)

/-! ### calls -/
section
variable {X : Cx} {σ : L2.St} {H : Hp} {Q : VK} {pos p2 p3 p4 apos : Pos} {a e : Expr} {es : List Expr} {P : Program} {w : World} {K : PySem.W.Frag} {mg : Str → Option Value} {base : Heap}
/-- a def of the module by its name: where it stands, how it binds, its promise -/
structure Df (P : Program) (w : World) (K : PySem.W.Frag) (mg : Str → Option Value) (base : Heap) (x : Str) (k : Nat) (ps : List Str) (sp : Sp) : Prop where
  ex : ∃ (f : Addr) (fd : FuncData), mg x = some (.ref f) ∧ PySem.W.keepIn K (.ref f) = true ∧ Binds K fd ps [] ∧ FnOk P w K mg base (L2.CX P w) k f fd ps sp
theorem e_call {x : Str} {k : Nat} {ps : List Str} {sp : Sp} {W : WX} [ct : CxT X W] (F : Df X.prog X.w X.K X.mg X.base x k ps sp) (hr : Room k X.A) (h : aW X (e :: es) σ H fun vs H1 => sp vs H1 Q fun cls d H' => W cls d σ H')
    (hg : Gl X x := by rfl) (hdb : (x == ("__debug__" : Str)) = false := by decide) (he : starEach (e :: es) X.env = (false, eval e X.env) :: starEach es X.env := by rfl) (hpl : (backTo pos (starEach es X.env)).any (·.1) = false := by rfl) : eW X (.Call (.Name x p2) (e :: es) [] pos) σ H Q := by
  obtain ⟨f, fd, h1, h2, h3, h4⟩ := F.ex
  exact eI (pe_callS (E := WE W) h4 hr hg h1 h2 h3 (fun σ => passAt ct.h σ) PAw hdb he hpl) h
theorem e_call0 {x : Str} {k : Nat} {ps : List Str} {sp : Sp} (F : Df X.prog X.w X.K X.mg X.base x k ps sp) (hr : Room k X.A) (h : sp [] H Q E0)
    (hg : Gl X x := by rfl) (hdb : (x == ("__debug__" : Str)) = false := by decide) : eW X (.Call (.Name x p2) [] [] pos) σ H Q := by
  obtain ⟨f, fd, h1, h2, h3, h4⟩ := F.ex
  exact eI (pe_call0 (E := E0) h4 hr hg h1 h2 h3 .nil passL hdb) h
theorem e_callB {x : Str} {id : String} [cm : CxM X mg] [g : Gn mg x none] [bl : Blt x (.builtin id)] (h : aW X (e :: es) σ H fun vs H1 => kW X (.builtin id) vs H1 Q)
    (hg : Gl X x := by rfl) (hn : x ≠ "__name__" := by decide) (hdb : (x == ("__debug__" : Str)) = false := by decide) (he : starEach (e :: es) X.env = (false, eval e X.env) :: starEach es X.env := by rfl) (hpl : (backTo pos (starEach es X.env)).any (·.1) = false := by rfl) : eW X (.Call (.Name x p2) (e :: es) [] pos) σ H Q :=
  eI (pe_callB KRw hg (by rw [cm.h]; exact g.h) bl.h PAw hn hdb he hpl) h
theorem e_callTy {x : Str} {id : String} [cm : CxM X mg] [g : Gn mg x none] [bl : Blt x (.type id)] (h : aW X (e :: es) σ H fun vs H1 => kW X (.type id) vs H1 Q)
    (hg : Gl X x := by rfl) (hn : x ≠ "__name__" := by decide) (hdb : (x == ("__debug__" : Str)) = false := by decide) (he : starEach (e :: es) X.env = (false, eval e X.env) :: starEach es X.env := by rfl) (hpl : (backTo pos (starEach es X.env)).any (·.1) = false := by rfl) : eW X (.Call (.Name x p2) (e :: es) [] pos) σ H Q :=
  eI (pe_callTy KRw hg (by rw [cm.h]; exact g.h) bl.h PAw hn hdb he hpl) h
end
/-! ### defs and classes of the text -/
structure At (K : PySem.W.Frag) (mg : Str → Option Value) (x q : Str) (st : Stmt) (ps : List Str) : Prop where
  ex : ∃ (f : Addr) (fd : FuncData), mg x = some (.ref f) ∧ Fun K x q st f fd ∧ Binds K fd ps []
structure MAt (K : PySem.W.Frag) (C : Addr) (x q : Str) (st : Stmt) (ps : List Str) : Prop where
  ex : ∃ (f : Addr) (fd : FuncData), Meth K C x f ∧ Fun K x q st f fd ∧ Binds K fd ps []
structure InitF (K : PySem.W.Frag) (C : Addr) (q : Str) (st : Stmt) (ps : List Str) : Prop where
  ex : ∃ (f : Addr) (fd : FuncData), Mk K C f ∧ Fun K "__init__" q st f fd ∧ Binds K fd ps []
structure ClsF (K : PySem.W.Frag) (mg : Str → Option Value) (x : Str) (C : Addr) : Prop where
  mg : mg x = some (.ref C)
  cl : Cls K C
  mks : PySem.W.makesIn K C = true
  kp : PySem.W.keepIn K (.ref C) = true
  ha : PySem.W.findIn K (.ref C) "__class__" = some (some (.builtin "object.__class__"))
  hn : PySem.W.specialIn K (.builtin "object.__class__") "__get__" = some (some (.builtin "getset_descriptor.__get__"))
  ht : PySem.W.takesIn K (.builtin "object.__class__") = some true
  hm : PySem.W.mroIn K C (.type "object") = some true
  ty : PySem.W.typeIn K (.ref C) = some (.type "type")
  ic : PySem.W.isClsIn K C = true
structure ExcF (K : PySem.W.Frag) (mg : Str → Option Value) (x : Str) (C : Addr) : Prop where
  mg : mg x = some (.ref C)
  ex : PySem.W.excIn K C [.type "ValueError", .type "Exception", .type "BaseException", .type "object"] "ValueError.__new__" = true
  kp : PySem.W.keepIn K (.ref C) = true
  be : PySem.W.subIn K (.ref C) (.type "BaseException") = some true
  ty : PySem.W.typeIn K (.ref C) = some (.type "type")
  ic : PySem.W.isClsIn K C = true
structure Md (P : Program) (w : World) (K : PySem.W.Frag) (mg : Str → Option Value) (base : Heap) (C : Addr) (x : Str) (k : Nat) (ps : List Str) (sp : Sp) : Prop where
  ex : ∃ (f : Addr) (fd : FuncData), Meth K C x f ∧ Binds K fd ps [] ∧ FnOk P w K mg base (L2.CX P w) k f fd ps sp
/-! ### promises by the number of the arguments -/
def sp0 (R : Hp → VK → XK → Prop) : Sp := fun vs H Q E => vs = [] ∧ R H Q E
def sp1 (R : V → Hp → VK → XK → Prop) : Sp := fun vs H Q E => ∃ a, vs = [a] ∧ R a H Q E
def sp2 (R : V → V → Hp → VK → XK → Prop) : Sp := fun vs H Q E => ∃ a b, vs = [a, b] ∧ R a b H Q E
def sp3 (R : V → V → V → Hp → VK → XK → Prop) : Sp := fun vs H Q E => ∃ a b c, vs = [a, b, c] ∧ R a b c H Q E
def sp4 (R : V → V → V → V → Hp → VK → XK → Prop) : Sp := fun vs H Q E => ∃ a b c d, vs = [a, b, c, d] ∧ R a b c d H Q E
def sp5 (R : V → V → V → V → V → Hp → VK → XK → Prop) : Sp := fun vs H Q E => ∃ a b c d e, vs = [a, b, c, d, e] ∧ R a b c d e H Q E
def sp6 (R : V → V → V → V → V → V → Hp → VK → XK → Prop) : Sp := fun vs H Q E => ∃ a b c d e f, vs = [a, b, c, d, e, f] ∧ R a b c d e f H Q E
section
variable {vs : List V} {H : Hp} {Q : VK} {E : XK}
theorem sp0_len {R} (h : sp0 R vs H Q E) : vs.length = 0 := by obtain ⟨rfl, _⟩ := h; rfl
theorem sp1_len {R} (h : sp1 R vs H Q E) : vs.length = 1 := by obtain ⟨_, rfl, _⟩ := h; rfl
theorem sp2_len {R} (h : sp2 R vs H Q E) : vs.length = 2 := by obtain ⟨_, _, rfl, _⟩ := h; rfl
theorem sp3_len {R} (h : sp3 R vs H Q E) : vs.length = 3 := by obtain ⟨_, _, _, rfl, _⟩ := h; rfl
theorem sp4_len {R} (h : sp4 R vs H Q E) : vs.length = 4 := by obtain ⟨_, _, _, _, rfl, _⟩ := h; rfl
theorem sp5_len {R} (h : sp5 R vs H Q E) : vs.length = 5 := by obtain ⟨_, _, _, _, _, rfl, _⟩ := h; rfl
theorem sp6_len {R} (h : sp6 R vs H Q E) : vs.length = 6 := by obtain ⟨_, _, _, _, _, _, rfl, _⟩ := h; rfl
end
section
variable {X : Cx} {σ : L2.St} {H : Hp} {Q : VK} {pos p2 p3 p4 apos : Pos} {a e o : Expr} {es : List Expr} {mg : Str → Option Value} {C : Addr}
/-- o.m(e, ..), o.m() of an own class -/
theorem e_meth {m : Str} {k : Nat} {ps : List Str} {sp : Sp} (c : Cls X.K C) (F : Md X.prog X.w X.K X.mg X.base C m k ps sp) (hr : Room k X.A)
    (h : eW X o σ H fun x H1 => ∃ a dx fs, x = .ref a ∧ H1 a = some (.ins C dx fs) ∧ fs.lookup m = none ∧ aW X (e :: es) σ H1 fun vs H2 => sp (x :: vs) H2 Q E0) {pl : Sem Bool}
    (hst : starEach (e :: es) X.env = (false, eval e X.env) :: starEach es X.env := by rfl) (hpl : (backTo pos (starEach es X.env)).any (·.1) = false := by rfl)
    (ht : eval (.Call (.Attribute o m apos) (e :: es) [] pos) X.env = (do
      let ov ← eval o X.env
      standAt apos.atName
      let (f, first) ← holding [ov] (getMethod ov m pl)
      callWith pos f first (backTo pos (starEach (e :: es) X.env)) (backToKw pos (keywordEach [] X.env))) := by rfl) : eW X (.Call (.Attribute o m apos) (e :: es) [] pos) σ H Q := by
  obtain ⟨f, fd, h1, h2, h3⟩ := F.ex
  exact eI (pe_meth (E := E0) PEw c h1 h3 hr h2 .nil passL PAw hst hpl ht) (eMono h fun x H1 ⟨a, dx, fs, q1, q2, q3, q4⟩ => ⟨a, dx, fs, q1, q2, q3, by simpa only [List.append_nil] using q4⟩)
theorem e_meth0 {m : Str} {k : Nat} {ps : List Str} {sp : Sp} (c : Cls X.K C) (F : Md X.prog X.w X.K X.mg X.base C m k ps sp) (hr : Room k X.A)
    (h : eW X o σ H fun x H1 => ∃ a dx fs, x = .ref a ∧ H1 a = some (.ins C dx fs) ∧ fs.lookup m = none ∧ sp [x] H1 Q E0) {pl : Sem Bool}
    (ht : eval (.Call (.Attribute o m apos) [] [] pos) X.env = (do
      let ov ← eval o X.env
      standAt apos.atName
      let (f, first) ← holding [ov] (getMethod ov m pl)
      callWith pos f first (backTo pos (starEach [] X.env)) (backToKw pos (keywordEach [] X.env))) := by rfl) : eW X (.Call (.Attribute o m apos) [] [] pos) σ H Q := by
  obtain ⟨f, fd, h1, h2, h3⟩ := F.ex
  exact eI (pe_meth0 (E := E0) PEw c h1 h3 hr h2 .nil passL ht) h
theorem run_makeO {pins : List (Addr × Obj)} {s : Shared} (hm : PySem.W.makesIn X.K C = true) (hi : PySem.W.findIn X.K (.ref C) "__init__" = some (some (.builtin "object.__init__"))) (I : Inv X pins σ H s)
    (h : ∀ x dx, H x = none → H dx = none → dx ≠ x → Q (.ref x) (upd (upd H dx (.own x)) x (.ins C dx []))) : wpAny (model X.prog X.w) X.A (call (.ref C) []) (EP X pins σ Q) X.xe s := by
  have hq := h (s.heap.objs.size + 1) s.heap.objs.size (I.hok.fresh (Nat.le_succ _)) (I.hok.fresh (Nat.le_refl _)) (Nat.ne_of_lt (Nat.lt_succ_self _))
  have I2 := Inv.made (C := C) I
  have KX := I.kIn
  refine wpAny_call (make_map0 KX hm hi (fun self => PySem.W.Looks.of_pure (PySem.W.oi_bind self)) ?_)
  obtain ⟨hh, g, d, t, os⟩ := s
  have Y := PySem.W.makes_of (M := model X.prog X.w) KX hm
  have t1 : PySem.W.Looks (model X.prog X.w) ((hh.push PySem.W.emptyDict).push (PySem.W.instObj C hh.objs.size)) (typeOf (.ref (hh.objs.size + 1))) (.ref C) := (PySem.W.Looks.ld (by
    have z := Heap.get?_push_size (hh.push PySem.W.emptyDict) (o := PySem.W.instObj C hh.objs.size) rfl
    rw [Heap.size_push] at z
    exact z)).andThen .now
  have t2 : PySem.W.Looks (model X.prog X.w) ((hh.push PySem.W.emptyDict).push (PySem.W.instObj C hh.objs.size)) (isInstance (.ref (hh.objs.size + 1)) (.type "object")) true := t1.andThen (Y.top.keeps fun b o e => Heap.get?_push_of_some _ (Heap.get?_push_of_some _ e))
  refine codeAny_call_builtin PySem.W.oi_plain PySem.W.entry_oi (@PySem.W.check_slot (model X.prog X.w) _ _ _ "object.__init__" "object" "__init__" (.ref (hh.objs.size + 1)) [] [] _ PySem.W.oi_kind PySem.W.oi_split t2 (PySem.W.oi_args (.ref (hh.objs.size + 1))) ?_)
  rw [PySem.W.oi_run]
  exact wpAny_pure ⟨rfl, .ref (hh.objs.size + 1), _, I2, rfl, hq⟩
theorem e_makeO {x : Str} [cm : CxM X mg] [g : Gn mg x (some (.ref C))] (hm : PySem.W.makesIn X.K C = true) (hk : PySem.W.keepIn X.K (.ref C) = true) (hi : PySem.W.findIn X.K (.ref C) "__init__" = some (some (.builtin "object.__init__")))
    (h : ∀ x dx, H x = none → H dx = none → dx ≠ x → Q (.ref x) (upd (upd H dx (.own x)) x (.ins C dx []))) (hg : Gl X x := by rfl) (hdb : (x == ("__debug__" : Str)) = false := by decide) : eW X (.Call (.Name x p2) [] [] pos) σ H Q := ⟨fun pins s I =>
  wpAny_Call_Name_kw (ld_glob I hg (by rw [cm.h]; exact g.h) (PySem.W.callWith_K0 I.kIn hk (run_makeO hm hi I h)) hdb)⟩
end
/-! ### isinstance -/
section
variable {X : Cx} {H : Hp} {Q : VK}
theorem k_isi {x c : V} {t u : Value} {b : Bool} (hc : ClsV c u) (hx : TyX X.K H x t) (e : PySem.W.kitOne X.K t u = some b) (q : Q (.bl b) H) : kW X (.builtin "isinstance") [x, c] H Q := kI call_isi ⟨_, _, _, _, _, rfl, hc, hx, e, q⟩
theorem ClsF.tyX {K : PySem.W.Frag} {mg : Str → Option Value} {x : Str} {C a dx : Addr} {fs : List (Str × V)} (T : ClsF K mg x C) (h : H a = some (.ins C dx fs)) : TyX K H (.ref a) (.ref C) := .base (.ins h T.cl T.ha T.hn T.ht T.hm)
theorem kit_refs {K : PySem.W.Frag} {C D : Addr} {b : Bool} (hs : PySem.W.subIn K (.ref C) (.ref D) = some b) (ic : PySem.W.isClsIn K D = true) (ty : PySem.W.typeIn K (.ref D) = some (.type "type")) (ne : C ≠ D) : PySem.W.kitOne K (.ref C) (.ref D) = some b := by
  have e1 : ((PySem.W.clsIn K D).isSome && PySem.W.typeIn K (.ref D) == some (.type "type")) = true := by
    have h2 : (PySem.W.clsIn K D).isSome = true := ic
    rw [h2, ty]; rfl
  have e2 : (Value.ref C == Value.ref D) = false := by simp [ne]
  show (if (Value.ref C == Value.ref D) = true then some true else if ((PySem.W.clsIn K D).isSome && PySem.W.typeIn K (.ref D) == some (.type "type")) = true then PySem.W.subIn K (.ref C) (.ref D) else none) = some b
  rw [e2, if_neg Bool.false_ne_true, if_pos e1]
  exact hs
theorem kit_self {K : PySem.W.Frag} {C : Addr} : PySem.W.kitOne K (.ref C) (.ref C) = some true := by
  show (if (Value.ref C == Value.ref C) = true then some true else _) = some true
  rw [if_pos (by simp)]
end
/-! ### subscripts, equality of data -/
structure iW (X : Cx) (x y : V) (H : Hp) (Q : VK) : Prop where
  run : ∀ (value slice : Expr) pins s σ v u, Inv X pins σ H s → RelV x v → RelV y u → subscripted slice false v u = operate [v, u] (getItem v u) → wpAny (model X.prog X.w) X.A (subscriptTail value slice v u) (EP X pins σ Q) X.xe s
section
variable {X : Cx} {σ : L2.St} {H : Hp} {Q : VK} {pos p2 p3 : Pos} {a b : Expr} {x y v : V} {p : Addr} {xs : List V} {i : Int}
theorem e_ix (h : eW X a σ H fun x H1 => eW X b σ H1 fun y H2 => iW X x y H2 Q) (hs : PlainIx b := by exact fun _ _ => rfl) : eW X (.Subscript a b pos) σ H Q :=
  eI (pe_ix (r := iW X) (fun value slice pins s σ H x y v u Q I rx ry h hs => h.run value slice pins s σ v u I rx ry hs) PEw PEw hs) h
theorem iI {r : R2} (h : IxR X r) (q : r x y H Q) : iW X x y H Q := ⟨fun value slice pins s σ v u I rx ry hs => h value slice pins s σ H x y v u Q I rx ry q hs⟩
theorem i_lst (h : SqL X.K H p xs) (e : atI xs i = some v) (q : Q v H) : iW X (.ref p) (.int i) H Q := iI ix_list ⟨_, _, _, _, rfl, rfl, h, e, q⟩
theorem i_tup (h : SqT X.K H p xs) (e : atI xs i = some v) (q : Q v H) : iW X (.ref p) (.int i) H Q := iI ix_tup ⟨_, _, _, _, rfl, rfl, h, e, q⟩
theorem i_str {z : Str} {c : Nat} (hz : z.length ≤ sizeLine) (e : atI z.cps.toList i = some c) (q : Q (.str ⟨#[c]⟩) H) : iW X (.str z) (.int i) H Q := iI ix_str ⟨_, _, _, rfl, rfl, hz, e, q⟩
theorem o_eqD {d e : PyData} (hu : X.A.units + 64 < cLine) (hx : Dp X.K H x d) (hy : Dp X.K H y e) (sd : SeqAt.shaped d = true) (se : SeqAt.shaped e = true) (q : Q (.bl (PyData.eqv d e)) H) : oW X (compareOp .Eq) x y H Q := oI (op_eqD hu) ⟨d, e, hx, hy, sd, se, q⟩
theorem o_neD {d e : PyData} (hu : X.A.units + 64 < cLine) (hx : Dp X.K H x d) (hy : Dp X.K H y e) (sd : SeqAt.shaped d = true) (se : SeqAt.shaped e = true) (q : Q (.bl (!PyData.eqv d e)) H) : oW X (compareOp .NotEq) x y H Q := oI (op_neD hu) ⟨d, e, hx, hy, sd, se, q⟩
theorem k_min {j : Int} [cc : CxC X] (q : Q (.int (if j < i then j else i)) H) : kW X (.builtin "min") [.int i, .int j] H Q := kI (call_min2 cc.h) ⟨_, _, rfl, q⟩
theorem k_max {j : Int} [cc : CxC X] (q : Q (.int (if j > i then j else i)) H) : kW X (.builtin "max") [.int i, .int j] H Q := kI (call_max2 cc.h) ⟨_, _, rfl, q⟩
end
theorem atI_nat {α : Type} {xs : List α} {i : Int} {v : α} (h0 : 0 ≤ i) (h : xs[i.toNat]? = some v) : atI xs i = some v := by
  have hl := (List.getElem?_eq_some_iff.mp h).1
  unfold atI ixN
  rw [if_pos h0, if_pos (by omega)]
  exact h
theorem atI_all {α : Type} {xs : List α} {i : Int} {P : α → Prop} (h0 : 0 ≤ i) (h1 : i < xs.length) (hp : ∀ x ∈ xs, P x) : ∃ v, atI xs i = some v ∧ P v := by
  have hl : i.toNat < xs.length := by omega
  exact ⟨xs[i.toNat], atI_nat h0 (List.getElem?_eq_getElem hl), hp _ (List.getElem_mem hl)⟩
theorem TyB {K : PySem.W.Frag} {H : Hp} : (∀ i, TyX K H (.int i) (.type "int")) ∧ (∀ b, TyX K H (.bl b) (.type "bool")) ∧ (∀ z, TyX K H (.str z) (.type "str")) ∧ TyX K H .non (.type "NoneType") := ⟨fun _ => .base (.int _), fun _ => .base (.bl _), fun _ => .base (.str _), .base .non⟩
theorem TyL {K : PySem.W.Frag} {H : Hp} {p : Addr} {xs : List V} (h : H p = some (.lst xs)) : TyX K H (.ref p) (.type "list") := .base (.lst h)
theorem TyT {K : PySem.W.Frag} {H : Hp} {p : Addr} {xs : List V} (h : H p = some (.tup xs)) : TyX K H (.ref p) (.type "tuple") := .base (.tup h)
section
variable {X : Cx} {H : Hp} {Q : VK}
/-- isinstance of a value told by its type's name, of a built-in type -/
theorem k_isB {x : V} {t n : String} {b : Bool} (hx : TyX X.K H x (.type t)) (e : kitB t n = some b) (q : Q (.bl b) H) : kW X (.builtin "isinstance") [x, .ty n] H Q := k_isi (.ty n) hx (kit_ty e) q
end
theorem kb_int_int : kitB "int" "int" = some true := by decide +kernel
theorem kb_int_bool : kitB "int" "bool" = some false := by decide +kernel
theorem kb_bool_int : kitB "bool" "int" = some true := by decide +kernel
theorem kb_bool_bool : kitB "bool" "bool" = some true := by decide +kernel
theorem p60 : (10 : Int) ^ (60 : Int).toNat = 1000000000000000000000000000000000000000000000000000000000000 := by decide
theorem p30 : (10 : Int) ^ (30 : Int).toNat = 1000000000000000000000000000000 := by decide
section
variable {X : Cx} {H : Hp} {Q : VK}
theorem o_p60 (q : Q (.int 1000000000000000000000000000000000000000000000000000000000000) H) : oW X (binaryOp .Pow) (.int 10) (.int 60) H Q := oI op_pow ⟨_, _, rfl, rfl, ⟨by decide, by decide, by decide⟩, by show Q (.int ((10 : Int) ^ (60 : Int).toNat)) H; rw [p60]; exact q⟩
theorem o_p30 (q : Q (.int 1000000000000000000000000000000) H) : oW X (binaryOp .Pow) (.int 10) (.int 30) H Q := oI op_pow ⟨_, _, rfl, rfl, ⟨by decide, by decide, by decide⟩, by show Q (.int ((10 : Int) ^ (30 : Int).toNat)) H; rw [p30]; exact q⟩
end
/-! ### what kind of goal stands here -/
section
variable {X : Cx} {σ : L2.St} {H : Hp} {Q : VK} {D : Ends} {e : Expr} {es : List Expr} {st : Stmt} {b : List Stmt} {R : Bool → Hp → Prop} {U : List V → Hp → Prop} {x y : V} {f : Value → Value → Sem Value} {g : Value} {xs : List V}
theorem is_e (h : eW X e σ H Q) : eW X e σ H Q := h
theorem is_o (h : oW X f x y H Q) : oW X f x y H Q := h
theorem is_k (h : kW X g xs H Q) : kW X g xs H Q := h
theorem is_i (h : iW X x y H Q) : iW X x y H Q := h
theorem is_a (h : aW X es σ H U) : aW X es σ H U := h
theorem is_s (h : sW X st D σ H) : sW X st D σ H := h
theorem is_b (h : bW X b D σ H) : bW X b D σ H := h
theorem is_t (h : tW X e σ H R) : tW X e σ H R := h
theorem is_c (h : cW X e σ H R) : cW X e σ H R := h
theorem is_g {v : V} {q : L2.St → Hp → Prop} (h : gW X e v σ H q) : gW X e v σ H q := h
theorem is_ite {p : Prop} {d : Decidable p} {A B : Prop} (h : @ite Prop p d A B) : @ite Prop p d A B := h
end
/-- a new list, its heap by what is known of it -/
theorem e_lstN {X : Cx} {σ : L2.St} {H : Hp} {Q : VK} {pos : Pos} {es : List Expr} (h : aW X es σ H fun xs H1 => Nat.ble xs.length 1000 = true ∧ ∀ p H2, Same H1 H2 → H1 p = none → H2 p = some (.lst xs) → (∀ b, b ≠ p → H2 b = H1 b) → Q (.ref p) H2) : eW X (.List es pos) σ H Q :=
  e_lst ⟨fun pos pins s I => wpAny_mono (h.run pos pins s I) (fun us s' ⟨vs, H', a, b, c, d⟩ => ⟨vs, H', a, b, Nat.le_trans (Nat.le_of_ble_eq_true c) (by decide), fun p hp => d p _ (fun x o e => by rw [upd_ne (ne_of_none e hp)]; exact e) hp upd_same fun x hx => upd_ne hx⟩) fun _ _ x => x⟩
theorem e_tupN {X : Cx} {σ : L2.St} {H : Hp} {Q : VK} {pos : Pos} {es : List Expr} {k : Nat} (h : aW X es σ H fun xs H1 => Nat.ble xs.length 1000 = true ∧ ∀ p H2, Same H1 H2 → H1 p = none → H2 p = some (.tup xs) → (∀ b, b ≠ p → H2 b = H1 b) → Q (.ref p) H2) : eW X (.Tuple es k pos) σ H Q :=
  e_tup ⟨fun pos pins s I => wpAny_mono (h.run pos pins s I) (fun us s' ⟨vs, H', a, b, c, d⟩ => ⟨vs, H', a, b, Nat.le_trans (Nat.le_of_ble_eq_true c) (by decide), fun p hp => d p _ (fun x o e => by rw [upd_ne (ne_of_none e hp)]; exact e) hp upd_same fun x hx => upd_ne hx⟩) fun _ _ x => x⟩
section
variable {X : Cx} {H : Hp} {Q : VK} {p : Addr} {xs : List V} {z : Str}
theorem k_lenL (h : SqL X.K H p xs) (q : Q (.int (xs.length : Int)) H) : kW X (.builtin "len") [.ref p] H Q := kI call_len_seq ⟨_, _, rfl, .inl h, q⟩
theorem k_lenT (h : SqT X.K H p xs) (q : Q (.int (xs.length : Int)) H) : kW X (.builtin "len") [.ref p] H Q := kI call_len_seq ⟨_, _, rfl, .inr h, q⟩
theorem k_lenS (h : z.length ≤ sizeLine) (q : Q (.int (z.length : Int)) H) : kW X (.builtin "len") [.str z] H Q := kI call_len_str ⟨_, rfl, h, q⟩
end
theorem Same.made' {H : Hp} {x dx C : Addr} (nx : H x = Option.none) (nd : H dx = Option.none) : Same H (upd (upd H dx (.own x)) x (.ins C dx [])) := fun b o e => by
  rw [upd_ne (ne_of_none e nx), upd_ne (ne_of_none e nd)]
  exact e
def R_law (K : PySem.W.Frag) : V → Hp → VK → XK → Prop := fun x H Q _ => ∃ (a : Addr) (ns : List Int), x = .ref a ∧ SqL K H a (ns.map V.int) ∧ ns.length ≤ 63 ∧ ∀ H', Q (.bl true) H'
/-! ### targets that are tuples -/
structure hW (X : Cx) (es : List Expr) (vs : List V) (σ : L2.St) (H : Hp) (Q : L2.St → Hp → Prop) : Prop where
  run : ∀ pins s us, Inv X pins σ H s → Vals vs us → wpAny (model X.prog X.w) X.A (assignInOrder ((assignEach es X.env).map (·.2)) us) (fun _ s' => ∃ σ' H', Inv X pins σ' H' s' ∧ Q σ' H') X.xe s
section
variable {X : Cx} {σ : L2.St} {H : Hp} {pos : Pos} {e : Expr} {es : List Expr} {Q : L2.St → Hp → Prop}
theorem PHw : PGs X es (hW X es) := ⟨fun pins s _ _ vs us _ I r h => h.run pins s us I r⟩
theorem h_nil (h : Q σ H) : hW X [] [] σ H Q := ⟨fun pins s us I r => pgs_nil.run pins s σ H [] us Q I r ⟨rfl, h⟩⟩
theorem h_cons {v : V} {vs : List V} (h : gW X e v σ H fun σ1 H1 => hW X es vs σ1 H1 Q) (hs : (assignEach (e :: es) X.env).map (·.2) = assign e X.env :: (assignEach es X.env).map (·.2) := by rfl) : hW X (e :: es) (v :: vs) σ H Q :=
  ⟨fun pins s us I r => (pgs_cons PGw PHw hs).run pins s σ H (v :: vs) us Q I r ⟨v, vs, rfl, h⟩⟩
theorem g_tup {k n : Nat} {v : V} [cc : CxC X] (h : ∃ a xs, v = .ref a ∧ SqT X.K H a xs ∧ xs.length = n ∧ hW X es xs σ H Q)
    (hn : (assignEach es X.env).length = n := by rfl) (hst : (assignEach es X.env).findIdx? (·.1) = none := by rfl) : gW X (.Tuple es k pos) v σ H Q := gI (pg_tup cc.h PHw hn hst) h
end
def oV : Option Int → V
  | none => .non
  | some i => .int i
theorem TyO {K : PySem.W.Frag} {H : Hp} : TyX K H .non (.type "NoneType") := .base .non
end G

namespace Lw
open PySem PySem.Spec PyProof.Rows L2 G
local macro_rules | `(tactic| walk_at "o") => `(tactic| (refine is_o ?_; first
  | refine o_add ?_ | refine o_sub ?_ | refine o_mod (by decide) ?_ | refine o_div ⟨by decide, by decide⟩ ?_ | refine o_eqI ?_ | refine o_neI ?_ | refine o_eqS ?_ | refine o_neS ?_ | refine o_lt ?_ | refine o_le ?_ | refine o_gt ?_ | refine o_ge ?_
  | refine o_p60 ?_ | refine o_p30 ?_ | refine o_pow ⟨by decide, by decide, by decide⟩ ?_ | refine o_eqB ?_ | refine o_neB ?_))
local macro_rules | `(tactic| walk_at "e") => `(tactic| (refine is_e ?_; first
  | refine e_var rfl ?_ | refine e_int ?_ | refine e_str ?_ | refine e_bl ?_ | refine e_non ?_
  | refine e_bin ?_ | refine e_ix ?_ | refine e_isN ?_ | refine e_notN ?_ | refine e_cmp ?_ | refine e_callB ?_ | refine e_callTy ?_ | refine e_globR ?_ | refine e_globI ?_ | refine e_ty ?_ | refine e_chain ?_ | refine e_un (u_neg ?_) | refine e_not ?_ | refine e_one ?_ | refine e_ifE ?_ | refine e_tupN ?_ | refine e_lstN ?_))
local macro_rules | `(tactic| walk_at "s") => `(tactic| (refine is_s ?_; first
  | refine s_set ?_ | refine s_if ?_ | refine s_ret ?_ | refine s_expr ?_ | refine s_retN ?_ | refine s_brk ?_ | refine s_cont ?_ | refine s_pass ?_))
local macro_rules | `(tactic| walk_at "t") => `(tactic| (refine is_t ?_; first
  | refine t_isN ?_ | refine t_notN ?_ | refine t_cmp ?_ | refine t_not ?_ | refine t_and ?_ | refine t_or ?_ | refine t_val ?_))
local macro_rules | `(tactic| walk_at "w1") => `(tactic| first
  | walk_at "e" | walk_at "o" | (refine is_a ?_; first | refine a_cons ?_ | refine a_nil ?_) | (refine is_b ?_; first | refine b_cons ?_ | refine b_nil ?_) | walk_at "s" | walk_at "t" | (refine is_c ?_; first | refine c_and1 ?_ | refine c_or1 ?_ | refine c_and ?_ | refine c_or ?_) | (refine is_g ?_; refine g_name ?_) | (refine is_ite ?_; first | refine iteT ?_ | refine iteF ?_)
  | (refine is_k ?_; first | refine k_min ?_ | refine k_max ?_)
  | refine ⟨rfl, ?_⟩ | refine ⟨_, rfl, ?_⟩ | refine ⟨_, _, rfl, ?_⟩ | refine ⟨_, _, _, rfl, ?_⟩ | refine ⟨_, _, rfl, rfl, ?_⟩ | refine ⟨_, _, _, rfl, rfl, rfl, ?_⟩ | refine ⟨_, _, _, _, rfl, ?_⟩ | refine ⟨_, _, _, _, _, rfl, ?_⟩ | refine ⟨_, _, _, _, _, _, rfl, ?_⟩)
local macro_rules | `(tactic| walk_at "w") => `(tactic| repeat walk_at "w1")

def top (i : Nat) : Stmt := PySem.Challenge.pw_forestread_k41_least_and_longest.main.body.getD i (.Pass ⟨0, 0, 0, 0⟩)
abbrev s_less_of : Stmt := top 2
theorem sc_less_of : FnScope ["one", "other"] ["one", "other"] (defScope s_less_of) := ⟨rfl, rfl, rfl, by decide +kernel, rfl, by decide +kernel, by decide +kernel⟩
instance : NdN ["one", "other"] := ⟨sc_less_of.nd⟩
abbrev X_less_of (P : Program) (w : World) (K : PySem.W.Frag) (mg : Str → Option Value) (base : Heap) (f : Addr) (cdv : Value) (A : Around) (outer : List Env) (s : Shared) (H : Hp) (E : XK) : Cx := cxr P w K mg base ["one", "other"] "less_of" s_less_of f cdv A outer s H E
abbrev s_more_of : Stmt := top 3
theorem sc_more_of : FnScope ["one", "other"] ["one", "other"] (defScope s_more_of) := ⟨rfl, rfl, rfl, by decide +kernel, rfl, by decide +kernel, by decide +kernel⟩
instance : NdN ["one", "other"] := ⟨sc_more_of.nd⟩
abbrev X_more_of (P : Program) (w : World) (K : PySem.W.Frag) (mg : Str → Option Value) (base : Heap) (f : Addr) (cdv : Value) (A : Around) (outer : List Env) (s : Shared) (H : Hp) (E : XK) : Cx := cxr P w K mg base ["one", "other"] "more_of" s_more_of f cdv A outer s H E
abbrev s_sum_of : Stmt := top 4
theorem sc_sum_of : FnScope ["one", "other"] ["one", "other"] (defScope s_sum_of) := ⟨rfl, rfl, rfl, by decide +kernel, rfl, by decide +kernel, by decide +kernel⟩
instance : NdN ["one", "other"] := ⟨sc_sum_of.nd⟩
abbrev X_sum_of (P : Program) (w : World) (K : PySem.W.Frag) (mg : Str → Option Value) (base : Heap) (f : Addr) (cdv : Value) (A : Around) (outer : List Env) (s : Shared) (H : Hp) (E : XK) : Cx := cxr P w K mg base ["one", "other"] "sum_of" s_sum_of f cdv A outer s H E
abbrev s_Tally_nothing : Stmt := inClass (top 5) 0
theorem sc_Tally_nothing : FnScope ["self"] ["self"] (defScope s_Tally_nothing) := ⟨rfl, rfl, rfl, by decide +kernel, rfl, by decide +kernel, by decide +kernel⟩
instance : NdN ["self"] := ⟨sc_Tally_nothing.nd⟩
abbrev X_Tally_nothing (P : Program) (w : World) (K : PySem.W.Frag) (mg : Str → Option Value) (base : Heap) (f : Addr) (cdv : Value) (A : Around) (outer : List Env) (s : Shared) (H : Hp) (E : XK) : Cx := cxr P w K mg base ["self"] "Tally.nothing" s_Tally_nothing f cdv A outer s H E
abbrev s_Tally_blank : Stmt := inClass (top 5) 1
theorem sc_Tally_blank : FnScope ["self"] ["self"] (defScope s_Tally_blank) := ⟨rfl, rfl, rfl, by decide +kernel, rfl, by decide +kernel, by decide +kernel⟩
instance : NdN ["self"] := ⟨sc_Tally_blank.nd⟩
abbrev X_Tally_blank (P : Program) (w : World) (K : PySem.W.Frag) (mg : Str → Option Value) (base : Heap) (f : Addr) (cdv : Value) (A : Around) (outer : List Env) (s : Shared) (H : Hp) (E : XK) : Cx := cxr P w K mg base ["self"] "Tally.blank" s_Tally_blank f cdv A outer s H E
abbrev s_Tally_of_rule : Stmt := inClass (top 5) 2
theorem sc_Tally_of_rule : FnScope ["self", "number", "worth"] ["self", "number", "worth"] (defScope s_Tally_of_rule) := ⟨rfl, rfl, rfl, by decide +kernel, rfl, by decide +kernel, by decide +kernel⟩
instance : NdN ["self", "number", "worth"] := ⟨sc_Tally_of_rule.nd⟩
abbrev X_Tally_of_rule (P : Program) (w : World) (K : PySem.W.Frag) (mg : Str → Option Value) (base : Heap) (f : Addr) (cdv : Value) (A : Around) (outer : List Env) (s : Shared) (H : Hp) (E : XK) : Cx := cxr P w K mg base ["self", "number", "worth"] "Tally.of_rule" s_Tally_of_rule f cdv A outer s H E
abbrev s_Tally_either : Stmt := inClass (top 5) 3
theorem sc_Tally_either : FnScope ["self", "one", "other"] ["self", "one", "other"] (defScope s_Tally_either) := ⟨rfl, rfl, rfl, by decide +kernel, rfl, by decide +kernel, by decide +kernel⟩
instance : NdN ["self", "one", "other"] := ⟨sc_Tally_either.nd⟩
abbrev X_Tally_either (P : Program) (w : World) (K : PySem.W.Frag) (mg : Str → Option Value) (base : Heap) (f : Addr) (cdv : Value) (A : Around) (outer : List Env) (s : Shared) (H : Hp) (E : XK) : Cx := cxr P w K mg base ["self", "one", "other"] "Tally.either" s_Tally_either f cdv A outer s H E
abbrev s_Tally_both : Stmt := inClass (top 5) 4
theorem sc_Tally_both : FnScope ["self", "one", "other"] ["self", "one", "other"] (defScope s_Tally_both) := ⟨rfl, rfl, rfl, by decide +kernel, rfl, by decide +kernel, by decide +kernel⟩
instance : NdN ["self", "one", "other"] := ⟨sc_Tally_both.nd⟩
abbrev X_Tally_both (P : Program) (w : World) (K : PySem.W.Frag) (mg : Str → Option Value) (base : Heap) (f : Addr) (cdv : Value) (A : Around) (outer : List Env) (s : Shared) (H : Hp) (E : XK) : Cx := cxr P w K mg base ["self", "one", "other"] "Tally.both" s_Tally_both f cdv A outer s H E
abbrev s_Many_nothing : Stmt := inClass (top 6) 0
theorem sc_Many_nothing : FnScope ["self"] ["self"] (defScope s_Many_nothing) := ⟨rfl, rfl, rfl, by decide +kernel, rfl, by decide +kernel, by decide +kernel⟩
instance : NdN ["self"] := ⟨sc_Many_nothing.nd⟩
abbrev X_Many_nothing (P : Program) (w : World) (K : PySem.W.Frag) (mg : Str → Option Value) (base : Heap) (f : Addr) (cdv : Value) (A : Around) (outer : List Env) (s : Shared) (H : Hp) (E : XK) : Cx := cxr P w K mg base ["self"] "Many.nothing" s_Many_nothing f cdv A outer s H E
abbrev s_Many_blank : Stmt := inClass (top 6) 1
theorem sc_Many_blank : FnScope ["self"] ["self"] (defScope s_Many_blank) := ⟨rfl, rfl, rfl, by decide +kernel, rfl, by decide +kernel, by decide +kernel⟩
instance : NdN ["self"] := ⟨sc_Many_blank.nd⟩
abbrev X_Many_blank (P : Program) (w : World) (K : PySem.W.Frag) (mg : Str → Option Value) (base : Heap) (f : Addr) (cdv : Value) (A : Around) (outer : List Env) (s : Shared) (H : Hp) (E : XK) : Cx := cxr P w K mg base ["self"] "Many.blank" s_Many_blank f cdv A outer s H E
abbrev s_Many_of_rule : Stmt := inClass (top 6) 2
theorem sc_Many_of_rule : FnScope ["self", "number", "worth"] ["self", "number", "worth"] (defScope s_Many_of_rule) := ⟨rfl, rfl, rfl, by decide +kernel, rfl, by decide +kernel, by decide +kernel⟩
instance : NdN ["self", "number", "worth"] := ⟨sc_Many_of_rule.nd⟩
abbrev X_Many_of_rule (P : Program) (w : World) (K : PySem.W.Frag) (mg : Str → Option Value) (base : Heap) (f : Addr) (cdv : Value) (A : Around) (outer : List Env) (s : Shared) (H : Hp) (E : XK) : Cx := cxr P w K mg base ["self", "number", "worth"] "Many.of_rule" s_Many_of_rule f cdv A outer s H E
abbrev s_Many_either : Stmt := inClass (top 6) 3
theorem sc_Many_either : FnScope ["self", "one", "other"] ["self", "one", "other"] (defScope s_Many_either) := ⟨rfl, rfl, rfl, by decide +kernel, rfl, by decide +kernel, by decide +kernel⟩
instance : NdN ["self", "one", "other"] := ⟨sc_Many_either.nd⟩
abbrev X_Many_either (P : Program) (w : World) (K : PySem.W.Frag) (mg : Str → Option Value) (base : Heap) (f : Addr) (cdv : Value) (A : Around) (outer : List Env) (s : Shared) (H : Hp) (E : XK) : Cx := cxr P w K mg base ["self", "one", "other"] "Many.either" s_Many_either f cdv A outer s H E
abbrev s_Many_both : Stmt := inClass (top 6) 4
theorem sc_Many_both : FnScope ["self", "one", "other"] ["self", "one", "other"] (defScope s_Many_both) := ⟨rfl, rfl, rfl, by decide +kernel, rfl, by decide +kernel, by decide +kernel⟩
instance : NdN ["self", "one", "other"] := ⟨sc_Many_both.nd⟩
abbrev X_Many_both (P : Program) (w : World) (K : PySem.W.Frag) (mg : Str → Option Value) (base : Heap) (f : Addr) (cdv : Value) (A : Around) (outer : List Env) (s : Shared) (H : Hp) (E : XK) : Cx := cxr P w K mg base ["self", "one", "other"] "Many.both" s_Many_both f cdv A outer s H E
abbrev s_Cheapest_nothing : Stmt := inClass (top 7) 0
theorem sc_Cheapest_nothing : FnScope ["self"] ["self"] (defScope s_Cheapest_nothing) := ⟨rfl, rfl, rfl, by decide +kernel, rfl, by decide +kernel, by decide +kernel⟩
instance : NdN ["self"] := ⟨sc_Cheapest_nothing.nd⟩
abbrev X_Cheapest_nothing (P : Program) (w : World) (K : PySem.W.Frag) (mg : Str → Option Value) (base : Heap) (f : Addr) (cdv : Value) (A : Around) (outer : List Env) (s : Shared) (H : Hp) (E : XK) : Cx := cxr P w K mg base ["self"] "Cheapest.nothing" s_Cheapest_nothing f cdv A outer s H E
abbrev s_Cheapest_blank : Stmt := inClass (top 7) 1
theorem sc_Cheapest_blank : FnScope ["self"] ["self"] (defScope s_Cheapest_blank) := ⟨rfl, rfl, rfl, by decide +kernel, rfl, by decide +kernel, by decide +kernel⟩
instance : NdN ["self"] := ⟨sc_Cheapest_blank.nd⟩
abbrev X_Cheapest_blank (P : Program) (w : World) (K : PySem.W.Frag) (mg : Str → Option Value) (base : Heap) (f : Addr) (cdv : Value) (A : Around) (outer : List Env) (s : Shared) (H : Hp) (E : XK) : Cx := cxr P w K mg base ["self"] "Cheapest.blank" s_Cheapest_blank f cdv A outer s H E
abbrev s_Cheapest_of_rule : Stmt := inClass (top 7) 2
theorem sc_Cheapest_of_rule : FnScope ["self", "number", "worth"] ["self", "number", "worth"] (defScope s_Cheapest_of_rule) := ⟨rfl, rfl, rfl, by decide +kernel, rfl, by decide +kernel, by decide +kernel⟩
instance : NdN ["self", "number", "worth"] := ⟨sc_Cheapest_of_rule.nd⟩
abbrev X_Cheapest_of_rule (P : Program) (w : World) (K : PySem.W.Frag) (mg : Str → Option Value) (base : Heap) (f : Addr) (cdv : Value) (A : Around) (outer : List Env) (s : Shared) (H : Hp) (E : XK) : Cx := cxr P w K mg base ["self", "number", "worth"] "Cheapest.of_rule" s_Cheapest_of_rule f cdv A outer s H E
abbrev s_Cheapest_either : Stmt := inClass (top 7) 3
theorem sc_Cheapest_either : FnScope ["self", "one", "other"] ["self", "one", "other"] (defScope s_Cheapest_either) := ⟨rfl, rfl, rfl, by decide +kernel, rfl, by decide +kernel, by decide +kernel⟩
instance : NdN ["self", "one", "other"] := ⟨sc_Cheapest_either.nd⟩
abbrev X_Cheapest_either (P : Program) (w : World) (K : PySem.W.Frag) (mg : Str → Option Value) (base : Heap) (f : Addr) (cdv : Value) (A : Around) (outer : List Env) (s : Shared) (H : Hp) (E : XK) : Cx := cxr P w K mg base ["self", "one", "other"] "Cheapest.either" s_Cheapest_either f cdv A outer s H E
abbrev s_Cheapest_both : Stmt := inClass (top 7) 4
theorem sc_Cheapest_both : FnScope ["self", "one", "other"] ["self", "one", "other"] (defScope s_Cheapest_both) := ⟨rfl, rfl, rfl, by decide +kernel, rfl, by decide +kernel, by decide +kernel⟩
instance : NdN ["self", "one", "other"] := ⟨sc_Cheapest_both.nd⟩
abbrev X_Cheapest_both (P : Program) (w : World) (K : PySem.W.Frag) (mg : Str → Option Value) (base : Heap) (f : Addr) (cdv : Value) (A : Around) (outer : List Env) (s : Shared) (H : Hp) (E : XK) : Cx := cxr P w K mg base ["self", "one", "other"] "Cheapest.both" s_Cheapest_both f cdv A outer s H E
abbrev s_Longest_nothing : Stmt := inClass (top 8) 0
theorem sc_Longest_nothing : FnScope ["self"] ["self"] (defScope s_Longest_nothing) := ⟨rfl, rfl, rfl, by decide +kernel, rfl, by decide +kernel, by decide +kernel⟩
instance : NdN ["self"] := ⟨sc_Longest_nothing.nd⟩
abbrev X_Longest_nothing (P : Program) (w : World) (K : PySem.W.Frag) (mg : Str → Option Value) (base : Heap) (f : Addr) (cdv : Value) (A : Around) (outer : List Env) (s : Shared) (H : Hp) (E : XK) : Cx := cxr P w K mg base ["self"] "Longest.nothing" s_Longest_nothing f cdv A outer s H E
abbrev s_Longest_blank : Stmt := inClass (top 8) 1
theorem sc_Longest_blank : FnScope ["self"] ["self"] (defScope s_Longest_blank) := ⟨rfl, rfl, rfl, by decide +kernel, rfl, by decide +kernel, by decide +kernel⟩
instance : NdN ["self"] := ⟨sc_Longest_blank.nd⟩
abbrev X_Longest_blank (P : Program) (w : World) (K : PySem.W.Frag) (mg : Str → Option Value) (base : Heap) (f : Addr) (cdv : Value) (A : Around) (outer : List Env) (s : Shared) (H : Hp) (E : XK) : Cx := cxr P w K mg base ["self"] "Longest.blank" s_Longest_blank f cdv A outer s H E
abbrev s_Longest_of_rule : Stmt := inClass (top 8) 2
theorem sc_Longest_of_rule : FnScope ["self", "number", "worth"] ["self", "number", "worth"] (defScope s_Longest_of_rule) := ⟨rfl, rfl, rfl, by decide +kernel, rfl, by decide +kernel, by decide +kernel⟩
instance : NdN ["self", "number", "worth"] := ⟨sc_Longest_of_rule.nd⟩
abbrev X_Longest_of_rule (P : Program) (w : World) (K : PySem.W.Frag) (mg : Str → Option Value) (base : Heap) (f : Addr) (cdv : Value) (A : Around) (outer : List Env) (s : Shared) (H : Hp) (E : XK) : Cx := cxr P w K mg base ["self", "number", "worth"] "Longest.of_rule" s_Longest_of_rule f cdv A outer s H E
abbrev s_Longest_either : Stmt := inClass (top 8) 3
theorem sc_Longest_either : FnScope ["self", "one", "other"] ["self", "one", "other"] (defScope s_Longest_either) := ⟨rfl, rfl, rfl, by decide +kernel, rfl, by decide +kernel, by decide +kernel⟩
instance : NdN ["self", "one", "other"] := ⟨sc_Longest_either.nd⟩
abbrev X_Longest_either (P : Program) (w : World) (K : PySem.W.Frag) (mg : Str → Option Value) (base : Heap) (f : Addr) (cdv : Value) (A : Around) (outer : List Env) (s : Shared) (H : Hp) (E : XK) : Cx := cxr P w K mg base ["self", "one", "other"] "Longest.either" s_Longest_either f cdv A outer s H E
abbrev s_Longest_both : Stmt := inClass (top 8) 4
theorem sc_Longest_both : FnScope ["self", "one", "other"] ["self", "one", "other"] (defScope s_Longest_both) := ⟨rfl, rfl, rfl, by decide +kernel, rfl, by decide +kernel, by decide +kernel⟩
instance : NdN ["self", "one", "other"] := ⟨sc_Longest_both.nd⟩
abbrev X_Longest_both (P : Program) (w : World) (K : PySem.W.Frag) (mg : Str → Option Value) (base : Heap) (f : Addr) (cdv : Value) (A : Around) (outer : List Env) (s : Shared) (H : Hp) (E : XK) : Cx := cxr P w K mg base ["self", "one", "other"] "Longest.both" s_Longest_both f cdv A outer s H E
abbrev s_law_value : Stmt := top 10
theorem sc_law_value : FnScope ["_law_cell"] ["_law_cell"] (defScope s_law_value) := ⟨rfl, rfl, rfl, by decide +kernel, rfl, by decide +kernel, by decide +kernel⟩
instance : NdN ["_law_cell"] := ⟨sc_law_value.nd⟩
abbrev X_law_value (P : Program) (w : World) (K : PySem.W.Frag) (mg : Str → Option Value) (base : Heap) (f : Addr) (cdv : Value) (A : Around) (outer : List Env) (s : Shared) (H : Hp) (E : XK) : Cx := cxr P w K mg base ["_law_cell"] "_law_value" s_law_value f cdv A outer s H E
abbrev s_law_same : Stmt := top 11
theorem sc_law_same : FnScope ["_law_found", "_law_due"] ["_law_found", "_law_due"] (defScope s_law_same) := ⟨rfl, rfl, rfl, by decide +kernel, rfl, by decide +kernel, by decide +kernel⟩
instance : NdN ["_law_found", "_law_due"] := ⟨sc_law_same.nd⟩
abbrev X_law_same (P : Program) (w : World) (K : PySem.W.Frag) (mg : Str → Option Value) (base : Heap) (f : Addr) (cdv : Value) (A : Around) (outer : List Env) (s : Shared) (H : Hp) (E : XK) : Cx := cxr P w K mg base ["_law_found", "_law_due"] "_law_same" s_law_same f cdv A outer s H E
abbrev s_law_sum : Stmt := top 12
theorem sc_law_sum : FnScope ["_law_one", "_law_other"] ["_law_one", "_law_other"] (defScope s_law_sum) := ⟨rfl, rfl, rfl, by decide +kernel, rfl, by decide +kernel, by decide +kernel⟩
instance : NdN ["_law_one", "_law_other"] := ⟨sc_law_sum.nd⟩
abbrev X_law_sum (P : Program) (w : World) (K : PySem.W.Frag) (mg : Str → Option Value) (base : Heap) (f : Addr) (cdv : Value) (A : Around) (outer : List Env) (s : Shared) (H : Hp) (E : XK) : Cx := cxr P w K mg base ["_law_one", "_law_other"] "_law_sum" s_law_sum f cdv A outer s H E
abbrev s_law_choice : Stmt := top 13
theorem sc_law_choice : FnScope ["_law_one", "_law_other", "_law_greater"] ["_law_one", "_law_other", "_law_greater"] (defScope s_law_choice) := ⟨rfl, rfl, rfl, by decide +kernel, rfl, by decide +kernel, by decide +kernel⟩
instance : NdN ["_law_one", "_law_other", "_law_greater"] := ⟨sc_law_choice.nd⟩
abbrev X_law_choice (P : Program) (w : World) (K : PySem.W.Frag) (mg : Str → Option Value) (base : Heap) (f : Addr) (cdv : Value) (A : Around) (outer : List Env) (s : Shared) (H : Hp) (E : XK) : Cx := cxr P w K mg base ["_law_one", "_law_other", "_law_greater"] "_law_choice" s_law_choice f cdv A outer s H E
abbrev s_law_pair : Stmt := top 14
theorem sc_law_pair : FnScope ["_law_tally", "_law_one", "_law_other", "_law_greater"] ["_law_tally", "_law_one", "_law_other", "_law_greater"] (defScope s_law_pair) := ⟨rfl, rfl, rfl, by decide +kernel, rfl, by decide +kernel, by decide +kernel⟩
instance : NdN ["_law_tally", "_law_one", "_law_other", "_law_greater"] := ⟨sc_law_pair.nd⟩
abbrev X_law_pair (P : Program) (w : World) (K : PySem.W.Frag) (mg : Str → Option Value) (base : Heap) (f : Addr) (cdv : Value) (A : Around) (outer : List Env) (s : Shared) (H : Hp) (E : XK) : Cx := cxr P w K mg base ["_law_tally", "_law_one", "_law_other", "_law_greater"] "_law_pair" s_law_pair f cdv A outer s H E
abbrev s_law_spread : Stmt := top 15
theorem sc_law_spread : FnScope ["_law_tally", "_law_one", "_law_two", "_law_three", "_law_due"] ["_law_tally", "_law_one", "_law_two", "_law_three"] (defScope s_law_spread) := ⟨rfl, rfl, rfl, by decide +kernel, rfl, by decide +kernel, by decide +kernel⟩
instance : NdN ["_law_tally", "_law_one", "_law_two", "_law_three", "_law_due"] := ⟨sc_law_spread.nd⟩
abbrev X_law_spread (P : Program) (w : World) (K : PySem.W.Frag) (mg : Str → Option Value) (base : Heap) (f : Addr) (cdv : Value) (A : Around) (outer : List Env) (s : Shared) (H : Hp) (E : XK) : Cx := cxr P w K mg base ["_law_tally", "_law_one", "_law_two", "_law_three", "_law_due"] "_law_spread" s_law_spread f cdv A outer s H E
abbrev s_law_begun : Stmt := top 16
theorem sc_law_begun : FnScope ["_law_tally", "_law_number", "_law_worth", "_law_due"] ["_law_tally", "_law_number", "_law_worth", "_law_due"] (defScope s_law_begun) := ⟨rfl, rfl, rfl, by decide +kernel, rfl, by decide +kernel, by decide +kernel⟩
instance : NdN ["_law_tally", "_law_number", "_law_worth", "_law_due"] := ⟨sc_law_begun.nd⟩
abbrev X_law_begun (P : Program) (w : World) (K : PySem.W.Frag) (mg : Str → Option Value) (base : Heap) (f : Addr) (cdv : Value) (A : Around) (outer : List Env) (s : Shared) (H : Hp) (E : XK) : Cx := cxr P w K mg base ["_law_tally", "_law_number", "_law_worth", "_law_due"] "_law_begun" s_law_begun f cdv A outer s H E
abbrev s_law : Stmt := top 17
theorem sc_law : FnScope ["_law_script", "_law_cheapest", "_law_longest", "_law_tally", "_law_held", "_law_last", "_law_cell", "_law_value_here", "_law_worth", "_law_so_far", "_law_greater", "_law_way", "_law_low", "_law_high"] ["_law_script"] (defScope s_law) := ⟨rfl, rfl, rfl, by decide +kernel, rfl, by decide +kernel, by decide +kernel⟩
instance : NdN ["_law_script", "_law_cheapest", "_law_longest", "_law_tally", "_law_held", "_law_last", "_law_cell", "_law_value_here", "_law_worth", "_law_so_far", "_law_greater", "_law_way", "_law_low", "_law_high"] := ⟨sc_law.nd⟩
abbrev X_law (P : Program) (w : World) (K : PySem.W.Frag) (mg : Str → Option Value) (base : Heap) (f : Addr) (cdv : Value) (A : Around) (outer : List Env) (s : Shared) (H : Hp) (E : XK) : Cx := cxr P w K mg base ["_law_script", "_law_cheapest", "_law_longest", "_law_tally", "_law_held", "_law_last", "_law_cell", "_law_value_here", "_law_worth", "_law_so_far", "_law_greater", "_law_way", "_law_low", "_law_high"] "law" s_law f cdv A outer s H E
structure Cs where
  z : Addr := 0
  Tally : Addr
  Many : Addr
  Cheapest : Addr
  Longest : Addr
structure Txt (K : PySem.W.Frag) (mg : Str → Option Value) (cs : Cs) : Prop where
  b_bool : Gn mg "bool" none
  b_int : Gn mg "int" none
  b_isinstance : Gn mg "isinstance" none
  b_max : Gn mg "max" none
  b_min : Gn mg "min" none
  k_MOST_ROWS : ∃ t, mg "MOST_ROWS" = some (.int (1000000000000000000000000000000000000000000000000000000000000) t)
  c_Tally : ClsF K mg "Tally" cs.Tally
  i_Tally : PySem.W.findIn K (.ref cs.Tally) "__init__" = some (some (.builtin "object.__init__"))
  m_Tally_nothing : MAt K cs.Tally "nothing" "Tally.nothing" s_Tally_nothing ["self"]
  m_Tally_blank : MAt K cs.Tally "blank" "Tally.blank" s_Tally_blank ["self"]
  m_Tally_of_rule : MAt K cs.Tally "of_rule" "Tally.of_rule" s_Tally_of_rule ["self", "number", "worth"]
  m_Tally_either : MAt K cs.Tally "either" "Tally.either" s_Tally_either ["self", "one", "other"]
  m_Tally_both : MAt K cs.Tally "both" "Tally.both" s_Tally_both ["self", "one", "other"]
  c_Many : ClsF K mg "Many" cs.Many
  i_Many : PySem.W.findIn K (.ref cs.Many) "__init__" = some (some (.builtin "object.__init__"))
  m_Many_nothing : MAt K cs.Many "nothing" "Many.nothing" s_Many_nothing ["self"]
  m_Many_blank : MAt K cs.Many "blank" "Many.blank" s_Many_blank ["self"]
  m_Many_of_rule : MAt K cs.Many "of_rule" "Many.of_rule" s_Many_of_rule ["self", "number", "worth"]
  m_Many_either : MAt K cs.Many "either" "Many.either" s_Many_either ["self", "one", "other"]
  m_Many_both : MAt K cs.Many "both" "Many.both" s_Many_both ["self", "one", "other"]
  c_Cheapest : ClsF K mg "Cheapest" cs.Cheapest
  i_Cheapest : PySem.W.findIn K (.ref cs.Cheapest) "__init__" = some (some (.builtin "object.__init__"))
  m_Cheapest_nothing : MAt K cs.Cheapest "nothing" "Cheapest.nothing" s_Cheapest_nothing ["self"]
  m_Cheapest_blank : MAt K cs.Cheapest "blank" "Cheapest.blank" s_Cheapest_blank ["self"]
  m_Cheapest_of_rule : MAt K cs.Cheapest "of_rule" "Cheapest.of_rule" s_Cheapest_of_rule ["self", "number", "worth"]
  m_Cheapest_either : MAt K cs.Cheapest "either" "Cheapest.either" s_Cheapest_either ["self", "one", "other"]
  m_Cheapest_both : MAt K cs.Cheapest "both" "Cheapest.both" s_Cheapest_both ["self", "one", "other"]
  c_Longest : ClsF K mg "Longest" cs.Longest
  i_Longest : PySem.W.findIn K (.ref cs.Longest) "__init__" = some (some (.builtin "object.__init__"))
  m_Longest_nothing : MAt K cs.Longest "nothing" "Longest.nothing" s_Longest_nothing ["self"]
  m_Longest_blank : MAt K cs.Longest "blank" "Longest.blank" s_Longest_blank ["self"]
  m_Longest_of_rule : MAt K cs.Longest "of_rule" "Longest.of_rule" s_Longest_of_rule ["self", "number", "worth"]
  m_Longest_either : MAt K cs.Longest "either" "Longest.either" s_Longest_either ["self", "one", "other"]
  m_Longest_both : MAt K cs.Longest "both" "Longest.both" s_Longest_both ["self", "one", "other"]
  s_Tally_Tally : PySem.W.subIn K (.ref cs.Tally) (.ref cs.Tally) = some true
  s_Tally_Many : PySem.W.subIn K (.ref cs.Tally) (.ref cs.Many) = some false
  s_Tally_Cheapest : PySem.W.subIn K (.ref cs.Tally) (.ref cs.Cheapest) = some false
  s_Tally_Longest : PySem.W.subIn K (.ref cs.Tally) (.ref cs.Longest) = some false
  s_Many_Tally : PySem.W.subIn K (.ref cs.Many) (.ref cs.Tally) = some true
  s_Many_Many : PySem.W.subIn K (.ref cs.Many) (.ref cs.Many) = some true
  s_Many_Cheapest : PySem.W.subIn K (.ref cs.Many) (.ref cs.Cheapest) = some false
  s_Many_Longest : PySem.W.subIn K (.ref cs.Many) (.ref cs.Longest) = some false
  s_Cheapest_Tally : PySem.W.subIn K (.ref cs.Cheapest) (.ref cs.Tally) = some true
  s_Cheapest_Many : PySem.W.subIn K (.ref cs.Cheapest) (.ref cs.Many) = some false
  s_Cheapest_Cheapest : PySem.W.subIn K (.ref cs.Cheapest) (.ref cs.Cheapest) = some true
  s_Cheapest_Longest : PySem.W.subIn K (.ref cs.Cheapest) (.ref cs.Longest) = some false
  s_Longest_Tally : PySem.W.subIn K (.ref cs.Longest) (.ref cs.Tally) = some true
  s_Longest_Many : PySem.W.subIn K (.ref cs.Longest) (.ref cs.Many) = some false
  s_Longest_Cheapest : PySem.W.subIn K (.ref cs.Longest) (.ref cs.Cheapest) = some false
  s_Longest_Longest : PySem.W.subIn K (.ref cs.Longest) (.ref cs.Longest) = some true
  f_less_of : At K mg "less_of" "less_of" s_less_of ["one", "other"]
  f_more_of : At K mg "more_of" "more_of" s_more_of ["one", "other"]
  f_sum_of : At K mg "sum_of" "sum_of" s_sum_of ["one", "other"]
  f_law_value : At K mg "_law_value" "_law_value" s_law_value ["_law_cell"]
  f_law_same : At K mg "_law_same" "_law_same" s_law_same ["_law_found", "_law_due"]
  f_law_sum : At K mg "_law_sum" "_law_sum" s_law_sum ["_law_one", "_law_other"]
  f_law_choice : At K mg "_law_choice" "_law_choice" s_law_choice ["_law_one", "_law_other", "_law_greater"]
  f_law_pair : At K mg "_law_pair" "_law_pair" s_law_pair ["_law_tally", "_law_one", "_law_other", "_law_greater"]
  f_law_spread : At K mg "_law_spread" "_law_spread" s_law_spread ["_law_tally", "_law_one", "_law_two", "_law_three"]
  f_law_begun : At K mg "_law_begun" "_law_begun" s_law_begun ["_law_tally", "_law_number", "_law_worth", "_law_due"]
section
variable {P : Program} {w : World} {K : PySem.W.Frag} {mg : Str → Option Value} {base : Heap} {cs : Cs}
abbrev In60 (i : Int) : Prop := 0 ≤ i ∧ i ≤ (1000000000000000000000000000000000000000000000000000000000000 : Int)
def lessO : Option Int → Option Int → Option Int
  | none, b => b
  | some i, none => some i
  | some i, some j => some (if j < i then j else i)
def moreO : Option Int → Option Int → Option Int
  | none, b => b
  | some i, none => some i
  | some i, some j => some (if j > i then j else i)
def sumO : Option Int → Option Int → Option Int
  | some i, some j => some (i + j)
  | _, _ => none
def choiceO (g : Bool) (a b : Option Int) : Option Int := if g = true then moreO a b else lessO a b
theorem spreadO (g : Bool) (a b c : Option Int) : sumO a (choiceO g b c) = choiceO g (sumO a b) (sumO a c) := by
  cases g <;> cases a <;> cases b <;> cases c <;> simp only [choiceO, lessO, moreO, sumO, if_true, if_false, Bool.false_eq_true, Option.some.injEq]
  all_goals (repeat' split) <;> omega
def R_less_of : V → V → Hp → VK → XK → Prop := fun x y H Q _ => ∃ a b, x = oV a ∧ y = oV b ∧ Q (oV (lessO a b)) H
theorem ok_less_of {f : Addr} {fd : FuncData} (F : Fun K "less_of" "less_of" s_less_of f fd) (T : Txt K mg cs) : FnOk P w K mg base (L2.CX P w) 1 f fd ["one", "other"] (sp2 (R_less_of)) := by
  refine F.okX sc_less_of (fun vs H Q E h => sp2_len h) (fun cdv A outer s H vs Q E hr h => ⟨_, PBw (X := X_less_of P w K mg base f cdv A outer s H E), ?_⟩)
  obtain ⟨a0, a1, rfl, h⟩ := h
  have i_min := T.b_min
  have hr' : Room 0 (X_less_of P w K mg base f cdv A outer s H E).A := hr
  replace hr := hr'
  clear hr'
  obtain ⟨a, b, rfl, rfl, h⟩ := h
  cases a <;> cases b <;> (walk_at "w"; exact h)
theorem df_less_of (T : Txt K mg cs) : Df P w K mg base "less_of" 1 ["one", "other"] (sp2 (R_less_of)) := by
  obtain ⟨f, fd, hm, F, hb⟩ := T.f_less_of.ex
  exact ⟨f, fd, hm, F.kp, hb, ok_less_of F T⟩
def R_more_of : V → V → Hp → VK → XK → Prop := fun x y H Q _ => ∃ a b, x = oV a ∧ y = oV b ∧ Q (oV (moreO a b)) H
theorem ok_more_of {f : Addr} {fd : FuncData} (F : Fun K "more_of" "more_of" s_more_of f fd) (T : Txt K mg cs) : FnOk P w K mg base (L2.CX P w) 1 f fd ["one", "other"] (sp2 (R_more_of)) := by
  refine F.okX sc_more_of (fun vs H Q E h => sp2_len h) (fun cdv A outer s H vs Q E hr h => ⟨_, PBw (X := X_more_of P w K mg base f cdv A outer s H E), ?_⟩)
  obtain ⟨a0, a1, rfl, h⟩ := h
  have i_max := T.b_max
  have hr' : Room 0 (X_more_of P w K mg base f cdv A outer s H E).A := hr
  replace hr := hr'
  clear hr'
  obtain ⟨a, b, rfl, rfl, h⟩ := h
  cases a <;> cases b <;> (walk_at "w"; exact h)
theorem df_more_of (T : Txt K mg cs) : Df P w K mg base "more_of" 1 ["one", "other"] (sp2 (R_more_of)) := by
  obtain ⟨f, fd, hm, F, hb⟩ := T.f_more_of.ex
  exact ⟨f, fd, hm, F.kp, hb, ok_more_of F T⟩
def R_sum_of : V → V → Hp → VK → XK → Prop := fun x y H Q _ => ∃ a b, x = oV a ∧ y = oV b ∧ Q (oV (sumO a b)) H
theorem ok_sum_of {f : Addr} {fd : FuncData} (F : Fun K "sum_of" "sum_of" s_sum_of f fd) (T : Txt K mg cs) : FnOk P w K mg base (L2.CX P w) 1 f fd ["one", "other"] (sp2 (R_sum_of)) := by
  refine F.okX sc_sum_of (fun vs H Q E h => sp2_len h) (fun cdv A outer s H vs Q E hr h => ⟨_, PBw (X := X_sum_of P w K mg base f cdv A outer s H E), ?_⟩)
  obtain ⟨a0, a1, rfl, h⟩ := h
  have hr' : Room 0 (X_sum_of P w K mg base f cdv A outer s H E).A := hr
  replace hr := hr'
  clear hr'
  obtain ⟨a, b, rfl, rfl, h⟩ := h
  cases a <;> cases b <;> (walk_at "w"; exact h)
theorem df_sum_of (T : Txt K mg cs) : Df P w K mg base "sum_of" 1 ["one", "other"] (sp2 (R_sum_of)) := by
  obtain ⟨f, fd, hm, F, hb⟩ := T.f_sum_of.ex
  exact ⟨f, fd, hm, F.kp, hb, ok_sum_of F T⟩
def R_Cheapest_nothing : V → Hp → VK → XK → Prop := fun _ H Q _ => Q .non H
theorem ok_Cheapest_nothing {f : Addr} {fd : FuncData} (F : Fun K "nothing" "Cheapest.nothing" s_Cheapest_nothing f fd) (T : Txt K mg cs) : FnOk P w K mg base (L2.CX P w) 1 f fd ["self"] (sp1 (R_Cheapest_nothing)) := by
  refine F.okX sc_Cheapest_nothing (fun vs H Q E h => sp1_len h) (fun cdv A outer s H vs Q E hr h => ⟨_, PBw (X := X_Cheapest_nothing P w K mg base f cdv A outer s H E), ?_⟩)
  obtain ⟨a0, rfl, h⟩ := h
  have hr' : Room 0 (X_Cheapest_nothing P w K mg base f cdv A outer s H E).A := hr
  replace hr := hr'
  clear hr'
  walk_at "w"; exact h
theorem md_Cheapest_nothing (T : Txt K mg cs) : Md P w K mg base cs.Cheapest "nothing" 1 ["self"] (sp1 (R_Cheapest_nothing)) := by
  obtain ⟨f, fd, hm, F, hb⟩ := T.m_Cheapest_nothing.ex
  exact ⟨f, fd, hm, hb, ok_Cheapest_nothing F T⟩
def R_Cheapest_blank : V → Hp → VK → XK → Prop := fun _ H Q _ => Q (.int 0) H
theorem ok_Cheapest_blank {f : Addr} {fd : FuncData} (F : Fun K "blank" "Cheapest.blank" s_Cheapest_blank f fd) (T : Txt K mg cs) : FnOk P w K mg base (L2.CX P w) 1 f fd ["self"] (sp1 (R_Cheapest_blank)) := by
  refine F.okX sc_Cheapest_blank (fun vs H Q E h => sp1_len h) (fun cdv A outer s H vs Q E hr h => ⟨_, PBw (X := X_Cheapest_blank P w K mg base f cdv A outer s H E), ?_⟩)
  obtain ⟨a0, rfl, h⟩ := h
  have hr' : Room 0 (X_Cheapest_blank P w K mg base f cdv A outer s H E).A := hr
  replace hr := hr'
  clear hr'
  walk_at "w"; exact h
theorem md_Cheapest_blank (T : Txt K mg cs) : Md P w K mg base cs.Cheapest "blank" 1 ["self"] (sp1 (R_Cheapest_blank)) := by
  obtain ⟨f, fd, hm, F, hb⟩ := T.m_Cheapest_blank.ex
  exact ⟨f, fd, hm, hb, ok_Cheapest_blank F T⟩
def R_Cheapest_of_rule : V → V → V → Hp → VK → XK → Prop := fun _ _ v H Q _ => Q v H
theorem ok_Cheapest_of_rule {f : Addr} {fd : FuncData} (F : Fun K "of_rule" "Cheapest.of_rule" s_Cheapest_of_rule f fd) (T : Txt K mg cs) : FnOk P w K mg base (L2.CX P w) 1 f fd ["self", "number", "worth"] (sp3 (R_Cheapest_of_rule)) := by
  refine F.okX sc_Cheapest_of_rule (fun vs H Q E h => sp3_len h) (fun cdv A outer s H vs Q E hr h => ⟨_, PBw (X := X_Cheapest_of_rule P w K mg base f cdv A outer s H E), ?_⟩)
  obtain ⟨a0, a1, a2, rfl, h⟩ := h
  have hr' : Room 0 (X_Cheapest_of_rule P w K mg base f cdv A outer s H E).A := hr
  replace hr := hr'
  clear hr'
  walk_at "w"; exact h
theorem md_Cheapest_of_rule (T : Txt K mg cs) : Md P w K mg base cs.Cheapest "of_rule" 1 ["self", "number", "worth"] (sp3 (R_Cheapest_of_rule)) := by
  obtain ⟨f, fd, hm, F, hb⟩ := T.m_Cheapest_of_rule.ex
  exact ⟨f, fd, hm, hb, ok_Cheapest_of_rule F T⟩
def R_Cheapest_either : V → V → V → Hp → VK → XK → Prop := fun _ x y H Q _ => ∃ a b, x = oV a ∧ y = oV b ∧ Q (oV (choiceO false a b)) H
theorem ok_Cheapest_either {f : Addr} {fd : FuncData} (F : Fun K "either" "Cheapest.either" s_Cheapest_either f fd) (T : Txt K mg cs) : FnOk P w K mg base (L2.CX P w) 2 f fd ["self", "one", "other"] (sp3 (R_Cheapest_either)) := by
  refine F.okX sc_Cheapest_either (fun vs H Q E h => sp3_len h) (fun cdv A outer s H vs Q E hr h => ⟨_, PBw (X := X_Cheapest_either P w K mg base f cdv A outer s H E), ?_⟩)
  obtain ⟨a0, a1, a2, rfl, h⟩ := h
  have hr' : Room 1 (X_Cheapest_either P w K mg base f cdv A outer s H E).A := hr
  replace hr := hr'
  clear hr'
  obtain ⟨a, b, rfl, rfl, h⟩ := h
  walk_at "w"
  refine e_call (df_less_of T) (hr.mono (by decide)) ?_
  walk_at "w"
  first | exact h | exact ⟨_, _, rfl, rfl, h⟩
theorem md_Cheapest_either (T : Txt K mg cs) : Md P w K mg base cs.Cheapest "either" 2 ["self", "one", "other"] (sp3 (R_Cheapest_either)) := by
  obtain ⟨f, fd, hm, F, hb⟩ := T.m_Cheapest_either.ex
  exact ⟨f, fd, hm, hb, ok_Cheapest_either F T⟩
def R_Cheapest_both : V → V → V → Hp → VK → XK → Prop := fun _ x y H Q _ => ∃ a b, x = oV a ∧ y = oV b ∧ Q (oV (sumO a b)) H
theorem ok_Cheapest_both {f : Addr} {fd : FuncData} (F : Fun K "both" "Cheapest.both" s_Cheapest_both f fd) (T : Txt K mg cs) : FnOk P w K mg base (L2.CX P w) 2 f fd ["self", "one", "other"] (sp3 (R_Cheapest_both)) := by
  refine F.okX sc_Cheapest_both (fun vs H Q E h => sp3_len h) (fun cdv A outer s H vs Q E hr h => ⟨_, PBw (X := X_Cheapest_both P w K mg base f cdv A outer s H E), ?_⟩)
  obtain ⟨a0, a1, a2, rfl, h⟩ := h
  have hr' : Room 1 (X_Cheapest_both P w K mg base f cdv A outer s H E).A := hr
  replace hr := hr'
  clear hr'
  obtain ⟨a, b, rfl, rfl, h⟩ := h
  walk_at "w"
  refine e_call (df_sum_of T) (hr.mono (by decide)) ?_
  walk_at "w"
  first | exact h | exact ⟨_, _, rfl, rfl, h⟩
theorem md_Cheapest_both (T : Txt K mg cs) : Md P w K mg base cs.Cheapest "both" 2 ["self", "one", "other"] (sp3 (R_Cheapest_both)) := by
  obtain ⟨f, fd, hm, F, hb⟩ := T.m_Cheapest_both.ex
  exact ⟨f, fd, hm, hb, ok_Cheapest_both F T⟩
def R_Longest_nothing : V → Hp → VK → XK → Prop := fun _ H Q _ => Q .non H
theorem ok_Longest_nothing {f : Addr} {fd : FuncData} (F : Fun K "nothing" "Longest.nothing" s_Longest_nothing f fd) (T : Txt K mg cs) : FnOk P w K mg base (L2.CX P w) 1 f fd ["self"] (sp1 (R_Longest_nothing)) := by
  refine F.okX sc_Longest_nothing (fun vs H Q E h => sp1_len h) (fun cdv A outer s H vs Q E hr h => ⟨_, PBw (X := X_Longest_nothing P w K mg base f cdv A outer s H E), ?_⟩)
  obtain ⟨a0, rfl, h⟩ := h
  have hr' : Room 0 (X_Longest_nothing P w K mg base f cdv A outer s H E).A := hr
  replace hr := hr'
  clear hr'
  walk_at "w"; exact h
theorem md_Longest_nothing (T : Txt K mg cs) : Md P w K mg base cs.Longest "nothing" 1 ["self"] (sp1 (R_Longest_nothing)) := by
  obtain ⟨f, fd, hm, F, hb⟩ := T.m_Longest_nothing.ex
  exact ⟨f, fd, hm, hb, ok_Longest_nothing F T⟩
def R_Longest_blank : V → Hp → VK → XK → Prop := fun _ H Q _ => Q (.int 0) H
theorem ok_Longest_blank {f : Addr} {fd : FuncData} (F : Fun K "blank" "Longest.blank" s_Longest_blank f fd) (T : Txt K mg cs) : FnOk P w K mg base (L2.CX P w) 1 f fd ["self"] (sp1 (R_Longest_blank)) := by
  refine F.okX sc_Longest_blank (fun vs H Q E h => sp1_len h) (fun cdv A outer s H vs Q E hr h => ⟨_, PBw (X := X_Longest_blank P w K mg base f cdv A outer s H E), ?_⟩)
  obtain ⟨a0, rfl, h⟩ := h
  have hr' : Room 0 (X_Longest_blank P w K mg base f cdv A outer s H E).A := hr
  replace hr := hr'
  clear hr'
  walk_at "w"; exact h
theorem md_Longest_blank (T : Txt K mg cs) : Md P w K mg base cs.Longest "blank" 1 ["self"] (sp1 (R_Longest_blank)) := by
  obtain ⟨f, fd, hm, F, hb⟩ := T.m_Longest_blank.ex
  exact ⟨f, fd, hm, hb, ok_Longest_blank F T⟩
def R_Longest_of_rule : V → V → V → Hp → VK → XK → Prop := fun _ _ v H Q _ => Q (.int 1) H
theorem ok_Longest_of_rule {f : Addr} {fd : FuncData} (F : Fun K "of_rule" "Longest.of_rule" s_Longest_of_rule f fd) (T : Txt K mg cs) : FnOk P w K mg base (L2.CX P w) 1 f fd ["self", "number", "worth"] (sp3 (R_Longest_of_rule)) := by
  refine F.okX sc_Longest_of_rule (fun vs H Q E h => sp3_len h) (fun cdv A outer s H vs Q E hr h => ⟨_, PBw (X := X_Longest_of_rule P w K mg base f cdv A outer s H E), ?_⟩)
  obtain ⟨a0, a1, a2, rfl, h⟩ := h
  have hr' : Room 0 (X_Longest_of_rule P w K mg base f cdv A outer s H E).A := hr
  replace hr := hr'
  clear hr'
  walk_at "w"; exact h
theorem md_Longest_of_rule (T : Txt K mg cs) : Md P w K mg base cs.Longest "of_rule" 1 ["self", "number", "worth"] (sp3 (R_Longest_of_rule)) := by
  obtain ⟨f, fd, hm, F, hb⟩ := T.m_Longest_of_rule.ex
  exact ⟨f, fd, hm, hb, ok_Longest_of_rule F T⟩
def R_Longest_either : V → V → V → Hp → VK → XK → Prop := fun _ x y H Q _ => ∃ a b, x = oV a ∧ y = oV b ∧ Q (oV (choiceO true a b)) H
theorem ok_Longest_either {f : Addr} {fd : FuncData} (F : Fun K "either" "Longest.either" s_Longest_either f fd) (T : Txt K mg cs) : FnOk P w K mg base (L2.CX P w) 2 f fd ["self", "one", "other"] (sp3 (R_Longest_either)) := by
  refine F.okX sc_Longest_either (fun vs H Q E h => sp3_len h) (fun cdv A outer s H vs Q E hr h => ⟨_, PBw (X := X_Longest_either P w K mg base f cdv A outer s H E), ?_⟩)
  obtain ⟨a0, a1, a2, rfl, h⟩ := h
  have hr' : Room 1 (X_Longest_either P w K mg base f cdv A outer s H E).A := hr
  replace hr := hr'
  clear hr'
  obtain ⟨a, b, rfl, rfl, h⟩ := h
  walk_at "w"
  refine e_call (df_more_of T) (hr.mono (by decide)) ?_
  walk_at "w"
  first | exact h | exact ⟨_, _, rfl, rfl, h⟩
theorem md_Longest_either (T : Txt K mg cs) : Md P w K mg base cs.Longest "either" 2 ["self", "one", "other"] (sp3 (R_Longest_either)) := by
  obtain ⟨f, fd, hm, F, hb⟩ := T.m_Longest_either.ex
  exact ⟨f, fd, hm, hb, ok_Longest_either F T⟩
def R_Longest_both : V → V → V → Hp → VK → XK → Prop := fun _ x y H Q _ => ∃ a b, x = oV a ∧ y = oV b ∧ Q (oV (sumO a b)) H
theorem ok_Longest_both {f : Addr} {fd : FuncData} (F : Fun K "both" "Longest.both" s_Longest_both f fd) (T : Txt K mg cs) : FnOk P w K mg base (L2.CX P w) 2 f fd ["self", "one", "other"] (sp3 (R_Longest_both)) := by
  refine F.okX sc_Longest_both (fun vs H Q E h => sp3_len h) (fun cdv A outer s H vs Q E hr h => ⟨_, PBw (X := X_Longest_both P w K mg base f cdv A outer s H E), ?_⟩)
  obtain ⟨a0, a1, a2, rfl, h⟩ := h
  have hr' : Room 1 (X_Longest_both P w K mg base f cdv A outer s H E).A := hr
  replace hr := hr'
  clear hr'
  obtain ⟨a, b, rfl, rfl, h⟩ := h
  walk_at "w"
  refine e_call (df_sum_of T) (hr.mono (by decide)) ?_
  walk_at "w"
  first | exact h | exact ⟨_, _, rfl, rfl, h⟩
theorem md_Longest_both (T : Txt K mg cs) : Md P w K mg base cs.Longest "both" 2 ["self", "one", "other"] (sp3 (R_Longest_both)) := by
  obtain ⟨f, fd, hm, F, hb⟩ := T.m_Longest_both.ex
  exact ⟨f, fd, hm, hb, ok_Longest_both F T⟩
def R_law_value : V → Hp → VK → XK → Prop := fun x H Q _ => ∃ i, x = .int i ∧ ∀ o : Option Int, Q (oV o) H
theorem ok_law_value {f : Addr} {fd : FuncData} (F : Fun K "_law_value" "_law_value" s_law_value f fd) (T : Txt K mg cs) : FnOk P w K mg base (L2.CX P w) 1 f fd ["_law_cell"] (sp1 (R_law_value)) := by
  refine F.okX sc_law_value (fun vs H Q E h => sp1_len h) (fun cdv A outer s H vs Q E hr h => ⟨_, PBw (X := X_law_value P w K mg base f cdv A outer s H E), ?_⟩)
  obtain ⟨a0, rfl, h⟩ := h
  have hr' : Room 0 (X_law_value P w K mg base f cdv A outer s H E).A := hr
  replace hr := hr'
  clear hr'
  obtain ⟨i, rfl, h⟩ := h
  walk_at "w"
  refine iteD (fun c => ?_) fun c => ?_
  · walk_at "w"; exact h none
  · walk_at "w"
    refine iteD (fun c => ?_) fun c => ?_
    · walk_at "w"; exact h (some _)
    · walk_at "w"; exact h (some _)
theorem df_law_value (T : Txt K mg cs) : Df P w K mg base "_law_value" 1 ["_law_cell"] (sp1 (R_law_value)) := by
  obtain ⟨f, fd, hm, F, hb⟩ := T.f_law_value.ex
  exact ⟨f, fd, hm, F.kp, hb, ok_law_value F T⟩
def R_law_same : V → V → Hp → VK → XK → Prop := fun x y H Q _ => ∃ o, x = oV o ∧ y = oV o ∧ Q (.bl true) H
theorem ok_law_same {f : Addr} {fd : FuncData} (F : Fun K "_law_same" "_law_same" s_law_same f fd) (T : Txt K mg cs) : FnOk P w K mg base (L2.CX P w) 1 f fd ["_law_found", "_law_due"] (sp2 (R_law_same)) := by
  refine F.okX sc_law_same (fun vs H Q E h => sp2_len h) (fun cdv A outer s H vs Q E hr h => ⟨_, PBw (X := X_law_same P w K mg base f cdv A outer s H E), ?_⟩)
  obtain ⟨a0, a1, rfl, h⟩ := h
  have i_isinstance := T.b_isinstance
  have i_int := T.b_int
  have i_bool := T.b_bool
  have hr' : Room 0 (X_law_same P w K mg base f cdv A outer s H E).A := hr
  replace hr := hr'
  clear hr'
  obtain ⟨o, rfl, rfl, h⟩ := h
  cases o with
  | none => walk_at "w"; exact h
  | some i =>
    walk_at "w"
    refine e_and ?_
    walk_at "w"
    refine k_isB (TyB.1 i) kb_int_int ?_
    walk_at "w"
    refine e_and ?_
    walk_at "w"
    refine k_isB (TyB.1 i) kb_int_bool ?_
    walk_at "w"
    rw [decide_eq_true rfl]
    exact h
theorem df_law_same (T : Txt K mg cs) : Df P w K mg base "_law_same" 1 ["_law_found", "_law_due"] (sp2 (R_law_same)) := by
  obtain ⟨f, fd, hm, F, hb⟩ := T.f_law_same.ex
  exact ⟨f, fd, hm, F.kp, hb, ok_law_same F T⟩
def R_law_sum : V → V → Hp → VK → XK → Prop := fun x y H Q _ => ∃ a b, x = oV a ∧ y = oV b ∧ Q (oV (sumO a b)) H
theorem ok_law_sum {f : Addr} {fd : FuncData} (F : Fun K "_law_sum" "_law_sum" s_law_sum f fd) (T : Txt K mg cs) : FnOk P w K mg base (L2.CX P w) 1 f fd ["_law_one", "_law_other"] (sp2 (R_law_sum)) := by
  refine F.okX sc_law_sum (fun vs H Q E h => sp2_len h) (fun cdv A outer s H vs Q E hr h => ⟨_, PBw (X := X_law_sum P w K mg base f cdv A outer s H E), ?_⟩)
  obtain ⟨a0, a1, rfl, h⟩ := h
  have hr' : Room 0 (X_law_sum P w K mg base f cdv A outer s H E).A := hr
  replace hr := hr'
  clear hr'
  obtain ⟨a, b, rfl, rfl, h⟩ := h
  cases a <;> cases b <;> (walk_at "w"; exact h)
theorem df_law_sum (T : Txt K mg cs) : Df P w K mg base "_law_sum" 1 ["_law_one", "_law_other"] (sp2 (R_law_sum)) := by
  obtain ⟨f, fd, hm, F, hb⟩ := T.f_law_sum.ex
  exact ⟨f, fd, hm, F.kp, hb, ok_law_sum F T⟩
def R_law_choice : V → V → V → Hp → VK → XK → Prop := fun x y z H Q _ => ∃ a b g, x = oV a ∧ y = oV b ∧ z = .bl g ∧ Q (oV (choiceO g a b)) H
theorem ok_law_choice {f : Addr} {fd : FuncData} (F : Fun K "_law_choice" "_law_choice" s_law_choice f fd) (T : Txt K mg cs) : FnOk P w K mg base (L2.CX P w) 1 f fd ["_law_one", "_law_other", "_law_greater"] (sp3 (R_law_choice)) := by
  refine F.okX sc_law_choice (fun vs H Q E h => sp3_len h) (fun cdv A outer s H vs Q E hr h => ⟨_, PBw (X := X_law_choice P w K mg base f cdv A outer s H E), ?_⟩)
  obtain ⟨a0, a1, a2, rfl, h⟩ := h
  have hr' : Room 0 (X_law_choice P w K mg base f cdv A outer s H E).A := hr
  replace hr := hr'
  clear hr'
  obtain ⟨a, b, g, rfl, rfl, rfl, h⟩ := h
  cases a with
  | none => cases g <;> (walk_at "w"; exact h)
  | some i =>
    cases b with
    | none => cases g <;> (walk_at "w"; exact h)
    | some j =>
      walk_at "w"
      refine iteD (fun c => ?_) fun c => ?_
      · walk_at "w"
        have e : choiceO g (some i) (some j) = some i := by
          cases g <;> simp only [choiceO, lessO, moreO, if_true, if_false, Bool.false_eq_true, Option.some.injEq] <;> (try split) <;> simp at c <;> omega
        rw [e] at h
        exact h
      · walk_at "w"
        have e : choiceO g (some i) (some j) = some j := by
          cases g <;> simp only [choiceO, lessO, moreO, if_true, if_false, Bool.false_eq_true, Option.some.injEq] <;> (try split) <;> simp at c <;> omega
        rw [e] at h
        exact h
theorem df_law_choice (T : Txt K mg cs) : Df P w K mg base "_law_choice" 1 ["_law_one", "_law_other", "_law_greater"] (sp3 (R_law_choice)) := by
  obtain ⟨f, fd, hm, F, hb⟩ := T.f_law_choice.ex
  exact ⟨f, fd, hm, F.kp, hb, ok_law_choice F T⟩
/-- a tally of the two kinds stands at p -/
def KindAt (cs : Cs) (H : Hp) (p : Addr) (g : Bool) : Prop := ∃ dx, H p = some (.ins (if g = true then cs.Longest else cs.Cheapest) dx [])
def R_law_pair (K : PySem.W.Frag) (cs : Cs) : V → V → V → V → Hp → VK → XK → Prop := fun m x y z H Q _ => ∃ p a b g, m = .ref p ∧ KindAt cs H p g ∧ x = oV a ∧ y = oV b ∧ z = .bl g ∧ Q (.bl true) H
theorem ok_law_pair {f : Addr} {fd : FuncData} (F : Fun K "_law_pair" "_law_pair" s_law_pair f fd) (T : Txt K mg cs) : FnOk P w K mg base (L2.CX P w) 3 f fd ["_law_tally", "_law_one", "_law_other", "_law_greater"] (sp4 (R_law_pair K cs)) := by
  refine F.okX sc_law_pair (fun vs H Q E h => sp4_len h) (fun cdv A outer s H vs Q E hr h => ⟨_, PBw (X := X_law_pair P w K mg base f cdv A outer s H E), ?_⟩)
  obtain ⟨a0, a1, a2, a3, rfl, h⟩ := h
  have hr' : Room 2 (X_law_pair P w K mg base f cdv A outer s H E).A := hr
  replace hr := hr'
  clear hr'
  obtain ⟨p, a, b, g, rfl, ⟨dx, hp⟩, rfl, rfl, rfl, h⟩ := h
  walk_at "w"
  refine e_call (df_law_same T) (hr.mono (by decide)) ?_
  cases g with
  | true =>
    refine a_cons ?_
    refine e_meth T.c_Longest.cl (md_Longest_either T) (hr.mono (by decide)) (e_var rfl ⟨p, dx, [], rfl, hp, rfl, ?_⟩)
    walk_at "w"
    try refine ⟨_, _, rfl, rfl, ?_⟩
    walk_at "w"
    refine e_call (df_law_choice T) (hr.mono (by decide)) ?_
    walk_at "w"
    try refine ⟨_, _, _, rfl, rfl, rfl, ?_⟩
    walk_at "w"
    try refine ⟨_, rfl, rfl, ?_⟩
    walk_at "w"
    refine e_call (df_law_same T) (hr.mono (by decide)) ?_
    refine a_cons ?_
    refine e_meth T.c_Longest.cl (md_Longest_both T) (hr.mono (by decide)) (e_var rfl ⟨p, dx, [], rfl, hp, rfl, ?_⟩)
    walk_at "w"
    try refine ⟨_, _, rfl, rfl, ?_⟩
    walk_at "w"
    refine e_call (df_law_sum T) (hr.mono (by decide)) ?_
    walk_at "w"
    try refine ⟨_, _, rfl, rfl, ?_⟩
    walk_at "w"
    first | exact h | exact ⟨_, rfl, rfl, h⟩
  | false =>
    refine a_cons ?_
    refine e_meth T.c_Cheapest.cl (md_Cheapest_either T) (hr.mono (by decide)) (e_var rfl ⟨p, dx, [], rfl, hp, rfl, ?_⟩)
    walk_at "w"
    try refine ⟨_, _, rfl, rfl, ?_⟩
    walk_at "w"
    refine e_call (df_law_choice T) (hr.mono (by decide)) ?_
    walk_at "w"
    try refine ⟨_, _, _, rfl, rfl, rfl, ?_⟩
    walk_at "w"
    try refine ⟨_, rfl, rfl, ?_⟩
    walk_at "w"
    refine e_call (df_law_same T) (hr.mono (by decide)) ?_
    refine a_cons ?_
    refine e_meth T.c_Cheapest.cl (md_Cheapest_both T) (hr.mono (by decide)) (e_var rfl ⟨p, dx, [], rfl, hp, rfl, ?_⟩)
    walk_at "w"
    try refine ⟨_, _, rfl, rfl, ?_⟩
    walk_at "w"
    refine e_call (df_law_sum T) (hr.mono (by decide)) ?_
    walk_at "w"
    try refine ⟨_, _, rfl, rfl, ?_⟩
    walk_at "w"
    first | exact h | exact ⟨_, rfl, rfl, h⟩
theorem df_law_pair (T : Txt K mg cs) : Df P w K mg base "_law_pair" 3 ["_law_tally", "_law_one", "_law_other", "_law_greater"] (sp4 (R_law_pair K cs)) := by
  obtain ⟨f, fd, hm, F, hb⟩ := T.f_law_pair.ex
  exact ⟨f, fd, hm, F.kp, hb, ok_law_pair F T⟩
def R_law_spread (K : PySem.W.Frag) (cs : Cs) : V → V → V → V → Hp → VK → XK → Prop := fun m x y z H Q _ => ∃ p a b c g, m = .ref p ∧ KindAt cs H p g ∧ x = oV a ∧ y = oV b ∧ z = oV c ∧ Q (.bl true) H
theorem ok_law_spread {f : Addr} {fd : FuncData} (F : Fun K "_law_spread" "_law_spread" s_law_spread f fd) (T : Txt K mg cs) : FnOk P w K mg base (L2.CX P w) 3 f fd ["_law_tally", "_law_one", "_law_two", "_law_three"] (sp4 (R_law_spread K cs)) := by
  refine F.okX sc_law_spread (fun vs H Q E h => sp4_len h) (fun cdv A outer s H vs Q E hr h => ⟨_, PBw (X := X_law_spread P w K mg base f cdv A outer s H E), ?_⟩)
  obtain ⟨a0, a1, a2, a3, rfl, h⟩ := h
  have hr' : Room 2 (X_law_spread P w K mg base f cdv A outer s H E).A := hr
  replace hr := hr'
  clear hr'
  obtain ⟨p, a, b, c, g, rfl, ⟨dx, hp⟩, rfl, rfl, rfl, h⟩ := h
  walk_at "w"
  cases g with
  | true =>
    refine e_meth T.c_Longest.cl (md_Longest_either T) (hr.mono (by decide)) (e_var rfl ⟨p, dx, [], rfl, hp, rfl, ?_⟩)
    refine a_cons ?_
    refine e_meth T.c_Longest.cl (md_Longest_both T) (hr.mono (by decide)) (e_var rfl ⟨p, dx, [], rfl, hp, rfl, ?_⟩)
    walk_at "w"
    try refine ⟨_, _, rfl, rfl, ?_⟩
    walk_at "w"
    refine e_meth T.c_Longest.cl (md_Longest_both T) (hr.mono (by decide)) (e_var rfl ⟨p, dx, [], rfl, hp, rfl, ?_⟩)
    walk_at "w"
    try refine ⟨_, _, rfl, rfl, ?_⟩
    walk_at "w"
    try refine ⟨_, _, rfl, rfl, ?_⟩
    walk_at "w"
    refine e_call (df_law_same T) (hr.mono (by decide)) ?_
    refine a_cons ?_
    refine e_meth T.c_Longest.cl (md_Longest_both T) (hr.mono (by decide)) (e_var rfl ⟨p, dx, [], rfl, hp, rfl, ?_⟩)
    walk_at "w"
    refine e_meth T.c_Longest.cl (md_Longest_either T) (hr.mono (by decide)) (e_var rfl ⟨p, dx, [], rfl, hp, rfl, ?_⟩)
    walk_at "w"
    try refine ⟨_, _, rfl, rfl, ?_⟩
    walk_at "w"
    try refine ⟨_, _, rfl, rfl, ?_⟩
    walk_at "w"
    exact ⟨by rw [spreadO], h⟩
  | false =>
    refine e_meth T.c_Cheapest.cl (md_Cheapest_either T) (hr.mono (by decide)) (e_var rfl ⟨p, dx, [], rfl, hp, rfl, ?_⟩)
    refine a_cons ?_
    refine e_meth T.c_Cheapest.cl (md_Cheapest_both T) (hr.mono (by decide)) (e_var rfl ⟨p, dx, [], rfl, hp, rfl, ?_⟩)
    walk_at "w"
    try refine ⟨_, _, rfl, rfl, ?_⟩
    walk_at "w"
    refine e_meth T.c_Cheapest.cl (md_Cheapest_both T) (hr.mono (by decide)) (e_var rfl ⟨p, dx, [], rfl, hp, rfl, ?_⟩)
    walk_at "w"
    try refine ⟨_, _, rfl, rfl, ?_⟩
    walk_at "w"
    try refine ⟨_, _, rfl, rfl, ?_⟩
    walk_at "w"
    refine e_call (df_law_same T) (hr.mono (by decide)) ?_
    refine a_cons ?_
    refine e_meth T.c_Cheapest.cl (md_Cheapest_both T) (hr.mono (by decide)) (e_var rfl ⟨p, dx, [], rfl, hp, rfl, ?_⟩)
    walk_at "w"
    refine e_meth T.c_Cheapest.cl (md_Cheapest_either T) (hr.mono (by decide)) (e_var rfl ⟨p, dx, [], rfl, hp, rfl, ?_⟩)
    walk_at "w"
    try refine ⟨_, _, rfl, rfl, ?_⟩
    walk_at "w"
    try refine ⟨_, _, rfl, rfl, ?_⟩
    walk_at "w"
    exact ⟨by rw [spreadO], h⟩
theorem df_law_spread (T : Txt K mg cs) : Df P w K mg base "_law_spread" 3 ["_law_tally", "_law_one", "_law_two", "_law_three"] (sp4 (R_law_spread K cs)) := by
  obtain ⟨f, fd, hm, F, hb⟩ := T.f_law_spread.ex
  exact ⟨f, fd, hm, F.kp, hb, ok_law_spread F T⟩
def R_law_begun (K : PySem.W.Frag) (cs : Cs) : V → V → V → V → Hp → VK → XK → Prop := fun m x y z H Q _ => ∃ (p : Addr) (g : Bool) (v : Int), m = .ref p ∧ KindAt cs H p g ∧ y = .int v ∧ z = .int (if g = true then 1 else v) ∧ Q (.bl true) H
theorem ok_law_begun {f : Addr} {fd : FuncData} (F : Fun K "_law_begun" "_law_begun" s_law_begun f fd) (T : Txt K mg cs) : FnOk P w K mg base (L2.CX P w) 2 f fd ["_law_tally", "_law_number", "_law_worth", "_law_due"] (sp4 (R_law_begun K cs)) := by
  refine F.okX sc_law_begun (fun vs H Q E h => sp4_len h) (fun cdv A outer s H vs Q E hr h => ⟨_, PBw (X := X_law_begun P w K mg base f cdv A outer s H E), ?_⟩)
  obtain ⟨a0, a1, a2, a3, rfl, h⟩ := h
  have hr' : Room 1 (X_law_begun P w K mg base f cdv A outer s H E).A := hr
  replace hr := hr'
  clear hr'
  obtain ⟨p, g, v, rfl, ⟨dx, hp⟩, rfl, rfl, h⟩ := h
  walk_at "w"
  cases g with
  | true =>
    refine e_meth0 T.c_Longest.cl (md_Longest_nothing T) (hr.mono (by decide)) (e_var rfl ⟨p, dx, [], rfl, hp, rfl, ?_⟩)
    walk_at "w"
    refine e_call (df_law_same T) (hr.mono (by decide)) ?_
    refine a_cons ?_
    refine e_meth0 T.c_Longest.cl (md_Longest_blank T) (hr.mono (by decide)) (e_var rfl ⟨p, dx, [], rfl, hp, rfl, ?_⟩)
    walk_at "w"
    try refine ⟨some 0, rfl, rfl, ?_⟩
    walk_at "w"
    refine e_call (df_law_same T) (hr.mono (by decide)) ?_
    refine a_cons ?_
    refine e_meth T.c_Longest.cl (md_Longest_of_rule T) (hr.mono (by decide)) (e_var rfl ⟨p, dx, [], rfl, hp, rfl, ?_⟩)
    walk_at "w"
    first | exact h | exact ⟨some 1, rfl, rfl, h⟩
  | false =>
    refine e_meth0 T.c_Cheapest.cl (md_Cheapest_nothing T) (hr.mono (by decide)) (e_var rfl ⟨p, dx, [], rfl, hp, rfl, ?_⟩)
    walk_at "w"
    refine e_call (df_law_same T) (hr.mono (by decide)) ?_
    refine a_cons ?_
    refine e_meth0 T.c_Cheapest.cl (md_Cheapest_blank T) (hr.mono (by decide)) (e_var rfl ⟨p, dx, [], rfl, hp, rfl, ?_⟩)
    walk_at "w"
    try refine ⟨some 0, rfl, rfl, ?_⟩
    walk_at "w"
    refine e_call (df_law_same T) (hr.mono (by decide)) ?_
    refine a_cons ?_
    refine e_meth T.c_Cheapest.cl (md_Cheapest_of_rule T) (hr.mono (by decide)) (e_var rfl ⟨p, dx, [], rfl, hp, rfl, ?_⟩)
    walk_at "w"
    first | exact h | exact ⟨some v, rfl, rfl, h⟩
theorem df_law_begun (T : Txt K mg cs) : Df P w K mg base "_law_begun" 2 ["_law_tally", "_law_number", "_law_worth", "_law_due"] (sp4 (R_law_begun K cs)) := by
  obtain ⟨f, fd, hm, F, hb⟩ := T.f_law_begun.ex
  exact ⟨f, fd, hm, F.kp, hb, ok_law_begun F T⟩
theorem ok_law {f : Addr} {fd : FuncData} (F : Fun K "law" "law" s_law f fd) (T : Txt K mg cs) : FnOk P w K mg base (L2.CX P w) 4 f fd ["_law_script"] (sp1 (R_law K)) := by
  refine F.okX sc_law (fun vs H Q E h => sp1_len h) (fun cdv A outer s H vs Q E hr h => ⟨_, PBw (X := X_law P w K mg base f cdv A outer s H E), ?_⟩)
  obtain ⟨a0, rfl, h⟩ := h
  have i_Cheapest : Gn mg "Cheapest" (some _) := ⟨T.c_Cheapest.mg⟩
  have i_Longest : Gn mg "Longest" (some _) := ⟨T.c_Longest.mg⟩
  have i_isinstance := T.b_isinstance
  have i_Many : Gn mg "Many" (some _) := ⟨T.c_Many.mg⟩
  have i_Tally : Gn mg "Tally" (some _) := ⟨T.c_Tally.mg⟩
  have hr' : Room 3 (X_law P w K mg base f cdv A outer s H E).A := hr
  replace hr := hr'
  clear hr'
  obtain ⟨a, ns, rfl, hS, hlen, h⟩ := h
  walk_at "w"
  refine e_makeO T.c_Cheapest.mks T.c_Cheapest.kp T.i_Cheapest fun p dx np nd ne => ?_
  have s1 := Same.made' (C := cs.Cheapest) np nd
  have hp : (upd (upd H dx (.own p)) p (.ins cs.Cheapest dx [])) p = some (.ins cs.Cheapest dx []) := upd_same
  generalize upd (upd H dx (.own p)) p (.ins cs.Cheapest dx []) = H1 at s1 hp ⊢
  walk_at "w"
  refine e_makeO T.c_Longest.mks T.c_Longest.kp T.i_Longest fun q dy nq ndy ney => ?_
  have s2 := Same.made' (C := cs.Longest) nq ndy
  have hq : (upd (upd H1 dy (.own q)) q (.ins cs.Longest dy [])) q = some (.ins cs.Longest dy []) := upd_same
  generalize upd (upd H1 dy (.own q)) q (.ins cs.Longest dy []) = H2 at s2 hq ⊢
  replace hp := s2 _ _ hp
  replace hS := s2.seq (s1.seq hS)
  have neCL : cs.Cheapest ≠ cs.Longest := fun e => by
    have z := T.s_Cheapest_Tally
    have z1 := T.s_Cheapest_Longest
    rw [e] at z1
    exact absurd (T.s_Longest_Longest.symm.trans z1) (by simp)
  have neCT : cs.Cheapest ≠ cs.Tally := fun e => by
    have z1 := T.s_Tally_Cheapest
    rw [e] at z1
    exact absurd (T.s_Tally_Tally.symm.trans z1) (by simp)
  have neLT : cs.Longest ≠ cs.Tally := fun e => by
    have z1 := T.s_Tally_Longest
    rw [e] at z1
    exact absurd (T.s_Tally_Tally.symm.trans z1) (by simp)
  have neCM : cs.Cheapest ≠ cs.Many := fun e => by
    have z1 := T.s_Many_Cheapest
    rw [e] at z1
    exact absurd (T.s_Many_Many.symm.trans z1) (by simp)
  have neLM : cs.Longest ≠ cs.Many := fun e => by
    have z1 := T.s_Many_Longest
    rw [e] at z1
    exact absurd (T.s_Many_Many.symm.trans z1) (by simp)
  walk_at "w"
  refine s_forL ?_
  walk_at "w"
  intro l1 H3 s3 n1 h1 _
  refine ⟨l1, _, rfl, SqL.of h1, fun n σ' H' => (∃ v, σ' = [some (.ref a), some (.ref p), some (.ref q), v, none, none, none, none, none, none, none, none, none, none]) ∧ H' = H3, ⟨⟨_, rfl⟩, rfl⟩, fun n σ' H' _ ⟨_, e⟩ => by rw [e]; exact SqL.of h1, ?_, ?_⟩
  · rintro n v σ' H' hv ⟨⟨v', rfl⟩, rfl⟩
    match n, hv with
    | 0, hv =>
      obtain rfl := Option.some.inj hv
      walk_at "w"
      refine k_isi (.own _) (T.c_Cheapest.tyX (s3 _ _ hp)) (kit_refs T.s_Cheapest_Tally T.c_Tally.ic T.c_Tally.ty neCT) ?_
      walk_at "w"
      refine k_isi (.own _) (T.c_Cheapest.tyX (s3 _ _ hp)) (kit_refs T.s_Cheapest_Many T.c_Many.ic T.c_Many.ty neCM) ?_
      walk_at "w"
      exact ⟨⟨_, rfl⟩, rfl⟩
    | 1, hv =>
      obtain rfl := Option.some.inj hv
      walk_at "w"
      refine k_isi (.own _) (T.c_Longest.tyX (s3 _ _ hq)) (kit_refs T.s_Longest_Tally T.c_Tally.ic T.c_Tally.ty neLT) ?_
      walk_at "w"
      refine k_isi (.own _) (T.c_Longest.tyX (s3 _ _ hq)) (kit_refs T.s_Longest_Many T.c_Many.ic T.c_Many.ty neLM) ?_
      walk_at "w"
      exact ⟨⟨_, rfl⟩, rfl⟩
  rintro σ' H' ⟨⟨v', rfl⟩, rfl⟩
  replace hp := s3 _ _ hp
  replace hq := s3 _ _ hq
  replace hS := s3.seq hS
  walk_at "w"
  refine k_isi (.own _) (T.c_Cheapest.tyX hp) (kit_refs T.s_Cheapest_Longest T.c_Longest.ic T.c_Longest.ty neCL) ?_
  walk_at "w"
  refine k_isi (.own _) (T.c_Longest.tyX hq) (kit_refs T.s_Longest_Cheapest T.c_Cheapest.ic T.c_Cheapest.ty neCL.symm) ?_
  walk_at "w"
  intro l4 H4 s4 n4 h4 _
  walk_at "w"
  refine s_forL ?_
  walk_at "w"
  refine ⟨a, _, rfl, s4.seq hS, fun n σ' H' => ∃ (v3 : Option V) (hl : Addr) (lo hi la : Option Int) (v6 v7 v8 v9 v10 v11 v12 v13 : Option V), σ' = [some (.ref a), some (.ref p), some (.ref q), v3, some (.ref hl), some (oV la), v6, v7, v8, v9, v10, v11, v12, v13] ∧ H' hl = some (.lst [oV lo, oV hi]) ∧ Same H4 H',
    ⟨_, _, none, none, none, _, _, _, _, _, _, _, _, rfl, h4, Same.refl _⟩, fun n σ' H' _ ⟨_, _, _, _, _, _, _, _, _, _, _, _, _, _, _, s⟩ => s.seq (s4.seq hS), ?_, ?_⟩
  · rintro n v σ' H' hv ⟨v3, hl, lo, hi, la, v6, v7, v8, v9, v10, v11, v12, v13, rfl, hh, s5⟩
    obtain ⟨c, rfl⟩ : ∃ c, v = .int c := by
      rw [List.getElem?_map] at hv
      cases e : ns[n]? with
      | none => rw [e] at hv; cases hv
      | some z => rw [e] at hv; exact ⟨z, (Option.some.inj hv).symm⟩
    have hp5 := s5 _ _ (s4 _ _ hp)
    have hq5 := s5 _ _ (s4 _ _ hq)
    walk_at "w"
    refine e_call (df_law_value T) (hr.mono (by decide)) ?_
    walk_at "w"
    intro va
    walk_at "w"
    refine e_call (df_law_begun T) (hr.mono (by decide)) ?_
    walk_at "w"
    refine ⟨p, false, _, rfl, ⟨_, hp5⟩, rfl, rfl, ?_⟩
    walk_at "w"
    refine e_call (df_law_begun T) (hr.mono (by decide)) ?_
    walk_at "w"
    refine ⟨q, true, _, rfl, ⟨_, hq5⟩, rfl, rfl, ?_⟩
    walk_at "w"
    refine s_forL ?_
    walk_at "w"
    refine i_lst (SqL.of hh) (v := oV lo) rfl ?_
    walk_at "w"
    intro t1 H6 s6 n6 h6 _
    walk_at "w"
    refine i_lst (SqL.of (s6 _ _ hh)) (v := oV hi) rfl ?_
    walk_at "w"
    intro t2 H7 s7 n7 h7 _
    walk_at "w"
    intro l8 H8 s8 n8 h8 _
    have t1' := s8 _ _ (s7 _ _ h6)
    have t2' := s8 _ _ h7
    have hp8 := s8 _ _ (s7 _ _ (s6 _ _ hp5))
    have hq8 := s8 _ _ (s7 _ _ (s6 _ _ hq5))
    have hh8 := s8 _ _ (s7 _ _ (s6 _ _ hh))
    refine ⟨l8, _, rfl, SqL.of h8, fun n σ' H' => (∃ v3 v9 v10, σ' = [some (.ref a), some (.ref p), some (.ref q), v3, some (.ref hl), some (oV la), some (.int c), some (oV va), some (.int (c / 60 % (1000000000000000000000000000000000000000000000000000000000000 + 1))), v9, v10, v11, v12, v13]) ∧ H' = H8,
      ⟨⟨_, _, _, rfl⟩, rfl⟩, fun n σ' H' _ ⟨_, e⟩ => by rw [e]; exact SqL.of h8, ?_, ?_⟩
    · rintro n v σ' H' hv ⟨⟨v3, v9, v10, rfl⟩, rfl⟩
      obtain ⟨tt, m, so, g, rfl, ht, hk⟩ : ∃ (tt m : Addr) (so : Option Int) (g : Bool), v = .ref tt ∧ H' tt = some (.tup [.ref m, oV so, .bl g]) ∧ KindAt cs H' m g := by
        match n, hv with
        | 0, hv => exact ⟨_, _, _, _, (Option.some.inj hv).symm, t1', _, hp8⟩
        | 1, hv => exact ⟨_, _, _, _, (Option.some.inj hv).symm, t2', _, hq8⟩
      refine g_tup ⟨_, _, rfl, SqT.of ht, rfl, ?_⟩
      refine h_cons ?_
      walk_at "w"
      refine h_cons ?_
      walk_at "w"
      refine h_cons ?_
      walk_at "w"
      refine h_nil ?_
      walk_at "w"
      refine e_call (df_law_pair T) (hr.mono (by decide)) ?_
      walk_at "w"
      refine ⟨m, _, _, _, rfl, hk, rfl, rfl, rfl, ?_⟩
      walk_at "w"
      refine e_call (df_law_pair T) (hr.mono (by decide)) ?_
      walk_at "w"
      refine ⟨m, _, _, _, rfl, hk, rfl, rfl, rfl, ?_⟩
      walk_at "w"
      refine e_call (df_law_spread T) (hr.mono (by decide)) ?_
      walk_at "w"
      refine ⟨m, _, _, _, _, rfl, hk, rfl, rfl, rfl, ?_⟩
      walk_at "w"
      exact ⟨⟨_, _, _, rfl⟩, rfl⟩
    rintro σ' H' ⟨⟨v3, v9, v10, rfl⟩, rfl⟩
    walk_at "w"
    refine e_call (df_law_choice T) (hr.mono (by decide)) ?_
    walk_at "w"
    refine i_lst (SqL.of hh8) (v := oV lo) rfl ?_
    walk_at "w"
    refine e_call (df_law_sum T) (hr.mono (by decide)) ?_
    walk_at "w"
    refine i_lst (SqL.of hh8) (v := oV lo) rfl ?_
    walk_at "w"
    refine i_lst (SqL.of hh8) (v := oV lo) rfl ?_
    walk_at "w"
    intro l9 H9 s9 n9 h9 _
    walk_at "w"
    obtain ⟨b1, hb1, lo', rfl⟩ := atI_all (xs := [oV (choiceO false lo va), oV (sumO lo va), oV va, oV lo]) (i := c / 25 % 4) (P := fun v => ∃ b, v = oV b) (by omega) (by show c / 25 % 4 < 4; omega) (by
      intro x hx
      simp only [List.mem_cons, List.not_mem_nil, or_false] at hx
      rcases hx with rfl | rfl | rfl | rfl <;> exact ⟨_, rfl⟩)
    refine i_lst (SqL.of h9) hb1 ?_
    walk_at "w"
    have hh9 := s9 _ _ hh8
    refine e_call (df_law_choice T) (hr.mono (by decide)) ?_
    walk_at "w"
    refine i_lst (SqL.of hh9) (v := oV hi) rfl ?_
    walk_at "w"
    refine e_call (df_law_sum T) (hr.mono (by decide)) ?_
    walk_at "w"
    refine i_lst (SqL.of hh9) (v := oV hi) rfl ?_
    walk_at "w"
    refine i_lst (SqL.of hh9) (v := oV hi) rfl ?_
    walk_at "w"
    intro l10 H10 s10 n10 h10 _
    walk_at "w"
    obtain ⟨b2, hb2, hi', rfl⟩ := atI_all (xs := [oV (choiceO true hi va), oV (sumO hi va), oV va, oV hi]) (i := c / 25 % 4) (P := fun v => ∃ b, v = oV b) (by omega) (by show c / 25 % 4 < 4; omega) (by
      intro x hx
      simp only [List.mem_cons, List.not_mem_nil, or_false] at hx
      rcases hx with rfl | rfl | rfl | rfl <;> exact ⟨_, rfl⟩)
    refine i_lst (SqL.of h10) hb2 ?_
    walk_at "w"
    intro l11 H11 s11 n11 h11 _
    walk_at "w"
    exact ⟨_, _, _, _, _, _, _, _, _, _, _, _, _, rfl, h11, s5.trans (s6.trans (s7.trans (s8.trans (s9.trans (s10.trans s11)))))⟩
  · rintro σ' H' ⟨v3, hl, lo, hi, la, v6, v7, v8, v9, v10, v11, v12, v13, rfl, hh, s5⟩
    walk_at "w"
    refine e_and ?_
    refine e_call (df_law_begun T) (hr.mono (by decide)) ?_
    walk_at "w"
    refine ⟨p, false, _, rfl, ⟨_, s5 _ _ (s4 _ _ hp)⟩, rfl, rfl, ?_⟩
    walk_at "w"
    refine e_call (df_law_begun T) (hr.mono (by decide)) ?_
    walk_at "w"
    refine ⟨q, true, _, rfl, ⟨_, s5 _ _ (s4 _ _ hq)⟩, rfl, rfl, ?_⟩
    exact h _

end
theorem all_mk {l : PySem.W.OpenLaw} {w : World} {K : PySem.W.Frag} {h : Heap} {mg : Str → Option Value} {fa C_Tally C_Many C_Cheapest C_Longest f_m_Tally_nothing f_m_Tally_blank f_m_Tally_of_rule f_m_Tally_either f_m_Tally_both f_m_Many_nothing f_m_Many_blank f_m_Many_of_rule f_m_Many_either f_m_Many_both f_m_Cheapest_nothing f_m_Cheapest_blank f_m_Cheapest_of_rule f_m_Cheapest_either f_m_Cheapest_both f_m_Longest_nothing f_m_Longest_blank f_m_Longest_of_rule f_m_Longest_either f_m_Longest_both f_less_of f_more_of f_sum_of f_law_value f_law_same f_law_sum f_law_choice f_law_pair f_law_spread f_law_begun f_law : Addr} (X : K.In h) (G : h.Ns mainGlobals mg) (hfa : mg "law" = some (.ref fa))
    {t_MOST_ROWS : Tok}
    {od_m_Tally_nothing an_m_Tally_nothing : Option Addr} {sl_m_Tally_nothing : Array (Option Value)} {oc_m_Tally_nothing kV_m_Tally_nothing dc_m_Tally_nothing pm_m_Tally_nothing cd_m_Tally_nothing ct_m_Tally_nothing : Value}
    {od_m_Tally_blank an_m_Tally_blank : Option Addr} {sl_m_Tally_blank : Array (Option Value)} {oc_m_Tally_blank kV_m_Tally_blank dc_m_Tally_blank pm_m_Tally_blank cd_m_Tally_blank ct_m_Tally_blank : Value}
    {od_m_Tally_of_rule an_m_Tally_of_rule : Option Addr} {sl_m_Tally_of_rule : Array (Option Value)} {oc_m_Tally_of_rule kV_m_Tally_of_rule dc_m_Tally_of_rule pm_m_Tally_of_rule cd_m_Tally_of_rule ct_m_Tally_of_rule : Value}
    {od_m_Tally_either an_m_Tally_either : Option Addr} {sl_m_Tally_either : Array (Option Value)} {oc_m_Tally_either kV_m_Tally_either dc_m_Tally_either pm_m_Tally_either cd_m_Tally_either ct_m_Tally_either : Value}
    {od_m_Tally_both an_m_Tally_both : Option Addr} {sl_m_Tally_both : Array (Option Value)} {oc_m_Tally_both kV_m_Tally_both dc_m_Tally_both pm_m_Tally_both cd_m_Tally_both ct_m_Tally_both : Value}
    {od_m_Many_nothing an_m_Many_nothing : Option Addr} {sl_m_Many_nothing : Array (Option Value)} {oc_m_Many_nothing kV_m_Many_nothing dc_m_Many_nothing pm_m_Many_nothing cd_m_Many_nothing ct_m_Many_nothing : Value}
    {od_m_Many_blank an_m_Many_blank : Option Addr} {sl_m_Many_blank : Array (Option Value)} {oc_m_Many_blank kV_m_Many_blank dc_m_Many_blank pm_m_Many_blank cd_m_Many_blank ct_m_Many_blank : Value}
    {od_m_Many_of_rule an_m_Many_of_rule : Option Addr} {sl_m_Many_of_rule : Array (Option Value)} {oc_m_Many_of_rule kV_m_Many_of_rule dc_m_Many_of_rule pm_m_Many_of_rule cd_m_Many_of_rule ct_m_Many_of_rule : Value}
    {od_m_Many_either an_m_Many_either : Option Addr} {sl_m_Many_either : Array (Option Value)} {oc_m_Many_either kV_m_Many_either dc_m_Many_either pm_m_Many_either cd_m_Many_either ct_m_Many_either : Value}
    {od_m_Many_both an_m_Many_both : Option Addr} {sl_m_Many_both : Array (Option Value)} {oc_m_Many_both kV_m_Many_both dc_m_Many_both pm_m_Many_both cd_m_Many_both ct_m_Many_both : Value}
    {od_m_Cheapest_nothing an_m_Cheapest_nothing : Option Addr} {sl_m_Cheapest_nothing : Array (Option Value)} {oc_m_Cheapest_nothing kV_m_Cheapest_nothing dc_m_Cheapest_nothing pm_m_Cheapest_nothing cd_m_Cheapest_nothing ct_m_Cheapest_nothing : Value}
    {od_m_Cheapest_blank an_m_Cheapest_blank : Option Addr} {sl_m_Cheapest_blank : Array (Option Value)} {oc_m_Cheapest_blank kV_m_Cheapest_blank dc_m_Cheapest_blank pm_m_Cheapest_blank cd_m_Cheapest_blank ct_m_Cheapest_blank : Value}
    {od_m_Cheapest_of_rule an_m_Cheapest_of_rule : Option Addr} {sl_m_Cheapest_of_rule : Array (Option Value)} {oc_m_Cheapest_of_rule kV_m_Cheapest_of_rule dc_m_Cheapest_of_rule pm_m_Cheapest_of_rule cd_m_Cheapest_of_rule ct_m_Cheapest_of_rule : Value}
    {od_m_Cheapest_either an_m_Cheapest_either : Option Addr} {sl_m_Cheapest_either : Array (Option Value)} {oc_m_Cheapest_either kV_m_Cheapest_either dc_m_Cheapest_either pm_m_Cheapest_either cd_m_Cheapest_either ct_m_Cheapest_either : Value}
    {od_m_Cheapest_both an_m_Cheapest_both : Option Addr} {sl_m_Cheapest_both : Array (Option Value)} {oc_m_Cheapest_both kV_m_Cheapest_both dc_m_Cheapest_both pm_m_Cheapest_both cd_m_Cheapest_both ct_m_Cheapest_both : Value}
    {od_m_Longest_nothing an_m_Longest_nothing : Option Addr} {sl_m_Longest_nothing : Array (Option Value)} {oc_m_Longest_nothing kV_m_Longest_nothing dc_m_Longest_nothing pm_m_Longest_nothing cd_m_Longest_nothing ct_m_Longest_nothing : Value}
    {od_m_Longest_blank an_m_Longest_blank : Option Addr} {sl_m_Longest_blank : Array (Option Value)} {oc_m_Longest_blank kV_m_Longest_blank dc_m_Longest_blank pm_m_Longest_blank cd_m_Longest_blank ct_m_Longest_blank : Value}
    {od_m_Longest_of_rule an_m_Longest_of_rule : Option Addr} {sl_m_Longest_of_rule : Array (Option Value)} {oc_m_Longest_of_rule kV_m_Longest_of_rule dc_m_Longest_of_rule pm_m_Longest_of_rule cd_m_Longest_of_rule ct_m_Longest_of_rule : Value}
    {od_m_Longest_either an_m_Longest_either : Option Addr} {sl_m_Longest_either : Array (Option Value)} {oc_m_Longest_either kV_m_Longest_either dc_m_Longest_either pm_m_Longest_either cd_m_Longest_either ct_m_Longest_either : Value}
    {od_m_Longest_both an_m_Longest_both : Option Addr} {sl_m_Longest_both : Array (Option Value)} {oc_m_Longest_both kV_m_Longest_both dc_m_Longest_both pm_m_Longest_both cd_m_Longest_both ct_m_Longest_both : Value}
    {od_less_of an_less_of : Option Addr} {sl_less_of : Array (Option Value)} {oc_less_of kV_less_of dc_less_of pm_less_of cd_less_of ct_less_of : Value}
    {od_more_of an_more_of : Option Addr} {sl_more_of : Array (Option Value)} {oc_more_of kV_more_of dc_more_of pm_more_of cd_more_of ct_more_of : Value}
    {od_sum_of an_sum_of : Option Addr} {sl_sum_of : Array (Option Value)} {oc_sum_of kV_sum_of dc_sum_of pm_sum_of cd_sum_of ct_sum_of : Value}
    {od_law_value an_law_value : Option Addr} {sl_law_value : Array (Option Value)} {oc_law_value kV_law_value dc_law_value pm_law_value cd_law_value ct_law_value : Value}
    {od_law_same an_law_same : Option Addr} {sl_law_same : Array (Option Value)} {oc_law_same kV_law_same dc_law_same pm_law_same cd_law_same ct_law_same : Value}
    {od_law_sum an_law_sum : Option Addr} {sl_law_sum : Array (Option Value)} {oc_law_sum kV_law_sum dc_law_sum pm_law_sum cd_law_sum ct_law_sum : Value}
    {od_law_choice an_law_choice : Option Addr} {sl_law_choice : Array (Option Value)} {oc_law_choice kV_law_choice dc_law_choice pm_law_choice cd_law_choice ct_law_choice : Value}
    {od_law_pair an_law_pair : Option Addr} {sl_law_pair : Array (Option Value)} {oc_law_pair kV_law_pair dc_law_pair pm_law_pair cd_law_pair ct_law_pair : Value}
    {od_law_spread an_law_spread : Option Addr} {sl_law_spread : Array (Option Value)} {oc_law_spread kV_law_spread dc_law_spread pm_law_spread cd_law_spread ct_law_spread : Value}
    {od_law_begun an_law_begun : Option Addr} {sl_law_begun : Array (Option Value)} {oc_law_begun kV_law_begun dc_law_begun pm_law_begun cd_law_begun ct_law_begun : Value}
    {od_law an_law : Option Addr} {sl_law : Array (Option Value)} {oc_law kV_law dc_law pm_law cd_law ct_law : Value}
    (b_bool : PySem.W.nsIn K mainGlobals "bool" = some none)
    (b_int : PySem.W.nsIn K mainGlobals "int" = some none)
    (b_isinstance : PySem.W.nsIn K mainGlobals "isinstance" = some none)
    (b_max : PySem.W.nsIn K mainGlobals "max" = some none)
    (b_min : PySem.W.nsIn K mainGlobals "min" = some none)
    (k_MOST_ROWS : PySem.W.nsIn K mainGlobals "MOST_ROWS" = some (some (.int (1000000000000000000000000000000000000000000000000000000000000) t_MOST_ROWS)))
    (g_Tally : PySem.W.nsIn K mainGlobals "Tally" = some (some (.ref C_Tally)))
    (pg_Tally : PySem.W.plainGet K C_Tally Str.empty = true)
    (hd_Tally : PySem.W.hasDictIn K C_Tally = true)
    (po_Tally : PySem.W.plainOver K C_Tally = true)
    (sa_Tally : PySem.W.findIn K (.ref C_Tally) "__setattr__" = some (some (.builtin "object.__setattr__")))
    (mk_Tally : PySem.W.makesIn K C_Tally = true)
    (kc_Tally : PySem.W.keepIn K (.ref C_Tally) = true)
    (ha_Tally : PySem.W.findIn K (.ref C_Tally) "__class__" = some (some (.builtin "object.__class__")))
    (hn_Tally : PySem.W.specialIn K (.builtin "object.__class__") "__get__" = some (some (.builtin "getset_descriptor.__get__")))
    (ht_Tally : PySem.W.takesIn K (.builtin "object.__class__") = some true)
    (hm_Tally : PySem.W.mroIn K C_Tally (.type "object") = some true)
    (tc_Tally : PySem.W.typeIn K (.ref C_Tally) = some (.type "type"))
    (ic_Tally : PySem.W.isClsIn K C_Tally = true)
    (oi_Tally : PySem.W.findIn K (.ref C_Tally) "__init__" = some (some (.builtin "object.__init__")))
    (a_m_Tally_nothing : PySem.W.findIn K (.ref C_Tally) "nothing" = some (some (.ref f_m_Tally_nothing)))
    (y_m_Tally_nothing : PySem.W.isFn K (.ref f_m_Tally_nothing) = true)
    (l_m_Tally_nothing : K.lookup f_m_Tally_nothing = some ⟨oc_m_Tally_nothing, od_m_Tally_nothing, .func (PySem.W.fnOf "nothing" "Tally.nothing" (defArgs s_Tally_nothing) (defBody s_Tally_nothing) (defScope s_Tally_nothing) .none kV_m_Tally_nothing dc_m_Tally_nothing pm_m_Tally_nothing an_m_Tally_nothing cd_m_Tally_nothing ct_m_Tally_nothing), sl_m_Tally_nothing⟩)
    (e_m_Tally_nothing : PySem.W.codeIn K cd_m_Tally_nothing "Tally.nothing" = true)
    (p_m_Tally_nothing : PySem.W.keepIn K (.ref f_m_Tally_nothing) = true)
    (a_m_Tally_blank : PySem.W.findIn K (.ref C_Tally) "blank" = some (some (.ref f_m_Tally_blank)))
    (y_m_Tally_blank : PySem.W.isFn K (.ref f_m_Tally_blank) = true)
    (l_m_Tally_blank : K.lookup f_m_Tally_blank = some ⟨oc_m_Tally_blank, od_m_Tally_blank, .func (PySem.W.fnOf "blank" "Tally.blank" (defArgs s_Tally_blank) (defBody s_Tally_blank) (defScope s_Tally_blank) .none kV_m_Tally_blank dc_m_Tally_blank pm_m_Tally_blank an_m_Tally_blank cd_m_Tally_blank ct_m_Tally_blank), sl_m_Tally_blank⟩)
    (e_m_Tally_blank : PySem.W.codeIn K cd_m_Tally_blank "Tally.blank" = true)
    (p_m_Tally_blank : PySem.W.keepIn K (.ref f_m_Tally_blank) = true)
    (a_m_Tally_of_rule : PySem.W.findIn K (.ref C_Tally) "of_rule" = some (some (.ref f_m_Tally_of_rule)))
    (y_m_Tally_of_rule : PySem.W.isFn K (.ref f_m_Tally_of_rule) = true)
    (l_m_Tally_of_rule : K.lookup f_m_Tally_of_rule = some ⟨oc_m_Tally_of_rule, od_m_Tally_of_rule, .func (PySem.W.fnOf "of_rule" "Tally.of_rule" (defArgs s_Tally_of_rule) (defBody s_Tally_of_rule) (defScope s_Tally_of_rule) .none kV_m_Tally_of_rule dc_m_Tally_of_rule pm_m_Tally_of_rule an_m_Tally_of_rule cd_m_Tally_of_rule ct_m_Tally_of_rule), sl_m_Tally_of_rule⟩)
    (e_m_Tally_of_rule : PySem.W.codeIn K cd_m_Tally_of_rule "Tally.of_rule" = true)
    (p_m_Tally_of_rule : PySem.W.keepIn K (.ref f_m_Tally_of_rule) = true)
    (a_m_Tally_either : PySem.W.findIn K (.ref C_Tally) "either" = some (some (.ref f_m_Tally_either)))
    (y_m_Tally_either : PySem.W.isFn K (.ref f_m_Tally_either) = true)
    (l_m_Tally_either : K.lookup f_m_Tally_either = some ⟨oc_m_Tally_either, od_m_Tally_either, .func (PySem.W.fnOf "either" "Tally.either" (defArgs s_Tally_either) (defBody s_Tally_either) (defScope s_Tally_either) .none kV_m_Tally_either dc_m_Tally_either pm_m_Tally_either an_m_Tally_either cd_m_Tally_either ct_m_Tally_either), sl_m_Tally_either⟩)
    (e_m_Tally_either : PySem.W.codeIn K cd_m_Tally_either "Tally.either" = true)
    (p_m_Tally_either : PySem.W.keepIn K (.ref f_m_Tally_either) = true)
    (a_m_Tally_both : PySem.W.findIn K (.ref C_Tally) "both" = some (some (.ref f_m_Tally_both)))
    (y_m_Tally_both : PySem.W.isFn K (.ref f_m_Tally_both) = true)
    (l_m_Tally_both : K.lookup f_m_Tally_both = some ⟨oc_m_Tally_both, od_m_Tally_both, .func (PySem.W.fnOf "both" "Tally.both" (defArgs s_Tally_both) (defBody s_Tally_both) (defScope s_Tally_both) .none kV_m_Tally_both dc_m_Tally_both pm_m_Tally_both an_m_Tally_both cd_m_Tally_both ct_m_Tally_both), sl_m_Tally_both⟩)
    (e_m_Tally_both : PySem.W.codeIn K cd_m_Tally_both "Tally.both" = true)
    (p_m_Tally_both : PySem.W.keepIn K (.ref f_m_Tally_both) = true)
    (g_Many : PySem.W.nsIn K mainGlobals "Many" = some (some (.ref C_Many)))
    (pg_Many : PySem.W.plainGet K C_Many Str.empty = true)
    (hd_Many : PySem.W.hasDictIn K C_Many = true)
    (po_Many : PySem.W.plainOver K C_Many = true)
    (sa_Many : PySem.W.findIn K (.ref C_Many) "__setattr__" = some (some (.builtin "object.__setattr__")))
    (mk_Many : PySem.W.makesIn K C_Many = true)
    (kc_Many : PySem.W.keepIn K (.ref C_Many) = true)
    (ha_Many : PySem.W.findIn K (.ref C_Many) "__class__" = some (some (.builtin "object.__class__")))
    (hn_Many : PySem.W.specialIn K (.builtin "object.__class__") "__get__" = some (some (.builtin "getset_descriptor.__get__")))
    (ht_Many : PySem.W.takesIn K (.builtin "object.__class__") = some true)
    (hm_Many : PySem.W.mroIn K C_Many (.type "object") = some true)
    (tc_Many : PySem.W.typeIn K (.ref C_Many) = some (.type "type"))
    (ic_Many : PySem.W.isClsIn K C_Many = true)
    (oi_Many : PySem.W.findIn K (.ref C_Many) "__init__" = some (some (.builtin "object.__init__")))
    (a_m_Many_nothing : PySem.W.findIn K (.ref C_Many) "nothing" = some (some (.ref f_m_Many_nothing)))
    (y_m_Many_nothing : PySem.W.isFn K (.ref f_m_Many_nothing) = true)
    (l_m_Many_nothing : K.lookup f_m_Many_nothing = some ⟨oc_m_Many_nothing, od_m_Many_nothing, .func (PySem.W.fnOf "nothing" "Many.nothing" (defArgs s_Many_nothing) (defBody s_Many_nothing) (defScope s_Many_nothing) .none kV_m_Many_nothing dc_m_Many_nothing pm_m_Many_nothing an_m_Many_nothing cd_m_Many_nothing ct_m_Many_nothing), sl_m_Many_nothing⟩)
    (e_m_Many_nothing : PySem.W.codeIn K cd_m_Many_nothing "Many.nothing" = true)
    (p_m_Many_nothing : PySem.W.keepIn K (.ref f_m_Many_nothing) = true)
    (a_m_Many_blank : PySem.W.findIn K (.ref C_Many) "blank" = some (some (.ref f_m_Many_blank)))
    (y_m_Many_blank : PySem.W.isFn K (.ref f_m_Many_blank) = true)
    (l_m_Many_blank : K.lookup f_m_Many_blank = some ⟨oc_m_Many_blank, od_m_Many_blank, .func (PySem.W.fnOf "blank" "Many.blank" (defArgs s_Many_blank) (defBody s_Many_blank) (defScope s_Many_blank) .none kV_m_Many_blank dc_m_Many_blank pm_m_Many_blank an_m_Many_blank cd_m_Many_blank ct_m_Many_blank), sl_m_Many_blank⟩)
    (e_m_Many_blank : PySem.W.codeIn K cd_m_Many_blank "Many.blank" = true)
    (p_m_Many_blank : PySem.W.keepIn K (.ref f_m_Many_blank) = true)
    (a_m_Many_of_rule : PySem.W.findIn K (.ref C_Many) "of_rule" = some (some (.ref f_m_Many_of_rule)))
    (y_m_Many_of_rule : PySem.W.isFn K (.ref f_m_Many_of_rule) = true)
    (l_m_Many_of_rule : K.lookup f_m_Many_of_rule = some ⟨oc_m_Many_of_rule, od_m_Many_of_rule, .func (PySem.W.fnOf "of_rule" "Many.of_rule" (defArgs s_Many_of_rule) (defBody s_Many_of_rule) (defScope s_Many_of_rule) .none kV_m_Many_of_rule dc_m_Many_of_rule pm_m_Many_of_rule an_m_Many_of_rule cd_m_Many_of_rule ct_m_Many_of_rule), sl_m_Many_of_rule⟩)
    (e_m_Many_of_rule : PySem.W.codeIn K cd_m_Many_of_rule "Many.of_rule" = true)
    (p_m_Many_of_rule : PySem.W.keepIn K (.ref f_m_Many_of_rule) = true)
    (a_m_Many_either : PySem.W.findIn K (.ref C_Many) "either" = some (some (.ref f_m_Many_either)))
    (y_m_Many_either : PySem.W.isFn K (.ref f_m_Many_either) = true)
    (l_m_Many_either : K.lookup f_m_Many_either = some ⟨oc_m_Many_either, od_m_Many_either, .func (PySem.W.fnOf "either" "Many.either" (defArgs s_Many_either) (defBody s_Many_either) (defScope s_Many_either) .none kV_m_Many_either dc_m_Many_either pm_m_Many_either an_m_Many_either cd_m_Many_either ct_m_Many_either), sl_m_Many_either⟩)
    (e_m_Many_either : PySem.W.codeIn K cd_m_Many_either "Many.either" = true)
    (p_m_Many_either : PySem.W.keepIn K (.ref f_m_Many_either) = true)
    (a_m_Many_both : PySem.W.findIn K (.ref C_Many) "both" = some (some (.ref f_m_Many_both)))
    (y_m_Many_both : PySem.W.isFn K (.ref f_m_Many_both) = true)
    (l_m_Many_both : K.lookup f_m_Many_both = some ⟨oc_m_Many_both, od_m_Many_both, .func (PySem.W.fnOf "both" "Many.both" (defArgs s_Many_both) (defBody s_Many_both) (defScope s_Many_both) .none kV_m_Many_both dc_m_Many_both pm_m_Many_both an_m_Many_both cd_m_Many_both ct_m_Many_both), sl_m_Many_both⟩)
    (e_m_Many_both : PySem.W.codeIn K cd_m_Many_both "Many.both" = true)
    (p_m_Many_both : PySem.W.keepIn K (.ref f_m_Many_both) = true)
    (g_Cheapest : PySem.W.nsIn K mainGlobals "Cheapest" = some (some (.ref C_Cheapest)))
    (pg_Cheapest : PySem.W.plainGet K C_Cheapest Str.empty = true)
    (hd_Cheapest : PySem.W.hasDictIn K C_Cheapest = true)
    (po_Cheapest : PySem.W.plainOver K C_Cheapest = true)
    (sa_Cheapest : PySem.W.findIn K (.ref C_Cheapest) "__setattr__" = some (some (.builtin "object.__setattr__")))
    (mk_Cheapest : PySem.W.makesIn K C_Cheapest = true)
    (kc_Cheapest : PySem.W.keepIn K (.ref C_Cheapest) = true)
    (ha_Cheapest : PySem.W.findIn K (.ref C_Cheapest) "__class__" = some (some (.builtin "object.__class__")))
    (hn_Cheapest : PySem.W.specialIn K (.builtin "object.__class__") "__get__" = some (some (.builtin "getset_descriptor.__get__")))
    (ht_Cheapest : PySem.W.takesIn K (.builtin "object.__class__") = some true)
    (hm_Cheapest : PySem.W.mroIn K C_Cheapest (.type "object") = some true)
    (tc_Cheapest : PySem.W.typeIn K (.ref C_Cheapest) = some (.type "type"))
    (ic_Cheapest : PySem.W.isClsIn K C_Cheapest = true)
    (oi_Cheapest : PySem.W.findIn K (.ref C_Cheapest) "__init__" = some (some (.builtin "object.__init__")))
    (a_m_Cheapest_nothing : PySem.W.findIn K (.ref C_Cheapest) "nothing" = some (some (.ref f_m_Cheapest_nothing)))
    (y_m_Cheapest_nothing : PySem.W.isFn K (.ref f_m_Cheapest_nothing) = true)
    (l_m_Cheapest_nothing : K.lookup f_m_Cheapest_nothing = some ⟨oc_m_Cheapest_nothing, od_m_Cheapest_nothing, .func (PySem.W.fnOf "nothing" "Cheapest.nothing" (defArgs s_Cheapest_nothing) (defBody s_Cheapest_nothing) (defScope s_Cheapest_nothing) .none kV_m_Cheapest_nothing dc_m_Cheapest_nothing pm_m_Cheapest_nothing an_m_Cheapest_nothing cd_m_Cheapest_nothing ct_m_Cheapest_nothing), sl_m_Cheapest_nothing⟩)
    (e_m_Cheapest_nothing : PySem.W.codeIn K cd_m_Cheapest_nothing "Cheapest.nothing" = true)
    (p_m_Cheapest_nothing : PySem.W.keepIn K (.ref f_m_Cheapest_nothing) = true)
    (a_m_Cheapest_blank : PySem.W.findIn K (.ref C_Cheapest) "blank" = some (some (.ref f_m_Cheapest_blank)))
    (y_m_Cheapest_blank : PySem.W.isFn K (.ref f_m_Cheapest_blank) = true)
    (l_m_Cheapest_blank : K.lookup f_m_Cheapest_blank = some ⟨oc_m_Cheapest_blank, od_m_Cheapest_blank, .func (PySem.W.fnOf "blank" "Cheapest.blank" (defArgs s_Cheapest_blank) (defBody s_Cheapest_blank) (defScope s_Cheapest_blank) .none kV_m_Cheapest_blank dc_m_Cheapest_blank pm_m_Cheapest_blank an_m_Cheapest_blank cd_m_Cheapest_blank ct_m_Cheapest_blank), sl_m_Cheapest_blank⟩)
    (e_m_Cheapest_blank : PySem.W.codeIn K cd_m_Cheapest_blank "Cheapest.blank" = true)
    (p_m_Cheapest_blank : PySem.W.keepIn K (.ref f_m_Cheapest_blank) = true)
    (a_m_Cheapest_of_rule : PySem.W.findIn K (.ref C_Cheapest) "of_rule" = some (some (.ref f_m_Cheapest_of_rule)))
    (y_m_Cheapest_of_rule : PySem.W.isFn K (.ref f_m_Cheapest_of_rule) = true)
    (l_m_Cheapest_of_rule : K.lookup f_m_Cheapest_of_rule = some ⟨oc_m_Cheapest_of_rule, od_m_Cheapest_of_rule, .func (PySem.W.fnOf "of_rule" "Cheapest.of_rule" (defArgs s_Cheapest_of_rule) (defBody s_Cheapest_of_rule) (defScope s_Cheapest_of_rule) .none kV_m_Cheapest_of_rule dc_m_Cheapest_of_rule pm_m_Cheapest_of_rule an_m_Cheapest_of_rule cd_m_Cheapest_of_rule ct_m_Cheapest_of_rule), sl_m_Cheapest_of_rule⟩)
    (e_m_Cheapest_of_rule : PySem.W.codeIn K cd_m_Cheapest_of_rule "Cheapest.of_rule" = true)
    (p_m_Cheapest_of_rule : PySem.W.keepIn K (.ref f_m_Cheapest_of_rule) = true)
    (a_m_Cheapest_either : PySem.W.findIn K (.ref C_Cheapest) "either" = some (some (.ref f_m_Cheapest_either)))
    (y_m_Cheapest_either : PySem.W.isFn K (.ref f_m_Cheapest_either) = true)
    (l_m_Cheapest_either : K.lookup f_m_Cheapest_either = some ⟨oc_m_Cheapest_either, od_m_Cheapest_either, .func (PySem.W.fnOf "either" "Cheapest.either" (defArgs s_Cheapest_either) (defBody s_Cheapest_either) (defScope s_Cheapest_either) .none kV_m_Cheapest_either dc_m_Cheapest_either pm_m_Cheapest_either an_m_Cheapest_either cd_m_Cheapest_either ct_m_Cheapest_either), sl_m_Cheapest_either⟩)
    (e_m_Cheapest_either : PySem.W.codeIn K cd_m_Cheapest_either "Cheapest.either" = true)
    (p_m_Cheapest_either : PySem.W.keepIn K (.ref f_m_Cheapest_either) = true)
    (a_m_Cheapest_both : PySem.W.findIn K (.ref C_Cheapest) "both" = some (some (.ref f_m_Cheapest_both)))
    (y_m_Cheapest_both : PySem.W.isFn K (.ref f_m_Cheapest_both) = true)
    (l_m_Cheapest_both : K.lookup f_m_Cheapest_both = some ⟨oc_m_Cheapest_both, od_m_Cheapest_both, .func (PySem.W.fnOf "both" "Cheapest.both" (defArgs s_Cheapest_both) (defBody s_Cheapest_both) (defScope s_Cheapest_both) .none kV_m_Cheapest_both dc_m_Cheapest_both pm_m_Cheapest_both an_m_Cheapest_both cd_m_Cheapest_both ct_m_Cheapest_both), sl_m_Cheapest_both⟩)
    (e_m_Cheapest_both : PySem.W.codeIn K cd_m_Cheapest_both "Cheapest.both" = true)
    (p_m_Cheapest_both : PySem.W.keepIn K (.ref f_m_Cheapest_both) = true)
    (g_Longest : PySem.W.nsIn K mainGlobals "Longest" = some (some (.ref C_Longest)))
    (pg_Longest : PySem.W.plainGet K C_Longest Str.empty = true)
    (hd_Longest : PySem.W.hasDictIn K C_Longest = true)
    (po_Longest : PySem.W.plainOver K C_Longest = true)
    (sa_Longest : PySem.W.findIn K (.ref C_Longest) "__setattr__" = some (some (.builtin "object.__setattr__")))
    (mk_Longest : PySem.W.makesIn K C_Longest = true)
    (kc_Longest : PySem.W.keepIn K (.ref C_Longest) = true)
    (ha_Longest : PySem.W.findIn K (.ref C_Longest) "__class__" = some (some (.builtin "object.__class__")))
    (hn_Longest : PySem.W.specialIn K (.builtin "object.__class__") "__get__" = some (some (.builtin "getset_descriptor.__get__")))
    (ht_Longest : PySem.W.takesIn K (.builtin "object.__class__") = some true)
    (hm_Longest : PySem.W.mroIn K C_Longest (.type "object") = some true)
    (tc_Longest : PySem.W.typeIn K (.ref C_Longest) = some (.type "type"))
    (ic_Longest : PySem.W.isClsIn K C_Longest = true)
    (oi_Longest : PySem.W.findIn K (.ref C_Longest) "__init__" = some (some (.builtin "object.__init__")))
    (a_m_Longest_nothing : PySem.W.findIn K (.ref C_Longest) "nothing" = some (some (.ref f_m_Longest_nothing)))
    (y_m_Longest_nothing : PySem.W.isFn K (.ref f_m_Longest_nothing) = true)
    (l_m_Longest_nothing : K.lookup f_m_Longest_nothing = some ⟨oc_m_Longest_nothing, od_m_Longest_nothing, .func (PySem.W.fnOf "nothing" "Longest.nothing" (defArgs s_Longest_nothing) (defBody s_Longest_nothing) (defScope s_Longest_nothing) .none kV_m_Longest_nothing dc_m_Longest_nothing pm_m_Longest_nothing an_m_Longest_nothing cd_m_Longest_nothing ct_m_Longest_nothing), sl_m_Longest_nothing⟩)
    (e_m_Longest_nothing : PySem.W.codeIn K cd_m_Longest_nothing "Longest.nothing" = true)
    (p_m_Longest_nothing : PySem.W.keepIn K (.ref f_m_Longest_nothing) = true)
    (a_m_Longest_blank : PySem.W.findIn K (.ref C_Longest) "blank" = some (some (.ref f_m_Longest_blank)))
    (y_m_Longest_blank : PySem.W.isFn K (.ref f_m_Longest_blank) = true)
    (l_m_Longest_blank : K.lookup f_m_Longest_blank = some ⟨oc_m_Longest_blank, od_m_Longest_blank, .func (PySem.W.fnOf "blank" "Longest.blank" (defArgs s_Longest_blank) (defBody s_Longest_blank) (defScope s_Longest_blank) .none kV_m_Longest_blank dc_m_Longest_blank pm_m_Longest_blank an_m_Longest_blank cd_m_Longest_blank ct_m_Longest_blank), sl_m_Longest_blank⟩)
    (e_m_Longest_blank : PySem.W.codeIn K cd_m_Longest_blank "Longest.blank" = true)
    (p_m_Longest_blank : PySem.W.keepIn K (.ref f_m_Longest_blank) = true)
    (a_m_Longest_of_rule : PySem.W.findIn K (.ref C_Longest) "of_rule" = some (some (.ref f_m_Longest_of_rule)))
    (y_m_Longest_of_rule : PySem.W.isFn K (.ref f_m_Longest_of_rule) = true)
    (l_m_Longest_of_rule : K.lookup f_m_Longest_of_rule = some ⟨oc_m_Longest_of_rule, od_m_Longest_of_rule, .func (PySem.W.fnOf "of_rule" "Longest.of_rule" (defArgs s_Longest_of_rule) (defBody s_Longest_of_rule) (defScope s_Longest_of_rule) .none kV_m_Longest_of_rule dc_m_Longest_of_rule pm_m_Longest_of_rule an_m_Longest_of_rule cd_m_Longest_of_rule ct_m_Longest_of_rule), sl_m_Longest_of_rule⟩)
    (e_m_Longest_of_rule : PySem.W.codeIn K cd_m_Longest_of_rule "Longest.of_rule" = true)
    (p_m_Longest_of_rule : PySem.W.keepIn K (.ref f_m_Longest_of_rule) = true)
    (a_m_Longest_either : PySem.W.findIn K (.ref C_Longest) "either" = some (some (.ref f_m_Longest_either)))
    (y_m_Longest_either : PySem.W.isFn K (.ref f_m_Longest_either) = true)
    (l_m_Longest_either : K.lookup f_m_Longest_either = some ⟨oc_m_Longest_either, od_m_Longest_either, .func (PySem.W.fnOf "either" "Longest.either" (defArgs s_Longest_either) (defBody s_Longest_either) (defScope s_Longest_either) .none kV_m_Longest_either dc_m_Longest_either pm_m_Longest_either an_m_Longest_either cd_m_Longest_either ct_m_Longest_either), sl_m_Longest_either⟩)
    (e_m_Longest_either : PySem.W.codeIn K cd_m_Longest_either "Longest.either" = true)
    (p_m_Longest_either : PySem.W.keepIn K (.ref f_m_Longest_either) = true)
    (a_m_Longest_both : PySem.W.findIn K (.ref C_Longest) "both" = some (some (.ref f_m_Longest_both)))
    (y_m_Longest_both : PySem.W.isFn K (.ref f_m_Longest_both) = true)
    (l_m_Longest_both : K.lookup f_m_Longest_both = some ⟨oc_m_Longest_both, od_m_Longest_both, .func (PySem.W.fnOf "both" "Longest.both" (defArgs s_Longest_both) (defBody s_Longest_both) (defScope s_Longest_both) .none kV_m_Longest_both dc_m_Longest_both pm_m_Longest_both an_m_Longest_both cd_m_Longest_both ct_m_Longest_both), sl_m_Longest_both⟩)
    (e_m_Longest_both : PySem.W.codeIn K cd_m_Longest_both "Longest.both" = true)
    (p_m_Longest_both : PySem.W.keepIn K (.ref f_m_Longest_both) = true)
    (su_Tally_Tally : PySem.W.subIn K (.ref C_Tally) (.ref C_Tally) = some true)
    (su_Tally_Many : PySem.W.subIn K (.ref C_Tally) (.ref C_Many) = some false)
    (su_Tally_Cheapest : PySem.W.subIn K (.ref C_Tally) (.ref C_Cheapest) = some false)
    (su_Tally_Longest : PySem.W.subIn K (.ref C_Tally) (.ref C_Longest) = some false)
    (su_Many_Tally : PySem.W.subIn K (.ref C_Many) (.ref C_Tally) = some true)
    (su_Many_Many : PySem.W.subIn K (.ref C_Many) (.ref C_Many) = some true)
    (su_Many_Cheapest : PySem.W.subIn K (.ref C_Many) (.ref C_Cheapest) = some false)
    (su_Many_Longest : PySem.W.subIn K (.ref C_Many) (.ref C_Longest) = some false)
    (su_Cheapest_Tally : PySem.W.subIn K (.ref C_Cheapest) (.ref C_Tally) = some true)
    (su_Cheapest_Many : PySem.W.subIn K (.ref C_Cheapest) (.ref C_Many) = some false)
    (su_Cheapest_Cheapest : PySem.W.subIn K (.ref C_Cheapest) (.ref C_Cheapest) = some true)
    (su_Cheapest_Longest : PySem.W.subIn K (.ref C_Cheapest) (.ref C_Longest) = some false)
    (su_Longest_Tally : PySem.W.subIn K (.ref C_Longest) (.ref C_Tally) = some true)
    (su_Longest_Many : PySem.W.subIn K (.ref C_Longest) (.ref C_Many) = some false)
    (su_Longest_Cheapest : PySem.W.subIn K (.ref C_Longest) (.ref C_Cheapest) = some false)
    (su_Longest_Longest : PySem.W.subIn K (.ref C_Longest) (.ref C_Longest) = some true)
    (a_less_of : PySem.W.nsIn K mainGlobals "less_of" = some (some (.ref f_less_of)))
    (l_less_of : K.lookup f_less_of = some ⟨oc_less_of, od_less_of, .func (PySem.W.fnOf "less_of" "less_of" (defArgs s_less_of) (defBody s_less_of) (defScope s_less_of) .none kV_less_of dc_less_of pm_less_of an_less_of cd_less_of ct_less_of), sl_less_of⟩)
    (e_less_of : PySem.W.codeIn K cd_less_of "less_of" = true)
    (p_less_of : PySem.W.keepIn K (.ref f_less_of) = true)
    (a_more_of : PySem.W.nsIn K mainGlobals "more_of" = some (some (.ref f_more_of)))
    (l_more_of : K.lookup f_more_of = some ⟨oc_more_of, od_more_of, .func (PySem.W.fnOf "more_of" "more_of" (defArgs s_more_of) (defBody s_more_of) (defScope s_more_of) .none kV_more_of dc_more_of pm_more_of an_more_of cd_more_of ct_more_of), sl_more_of⟩)
    (e_more_of : PySem.W.codeIn K cd_more_of "more_of" = true)
    (p_more_of : PySem.W.keepIn K (.ref f_more_of) = true)
    (a_sum_of : PySem.W.nsIn K mainGlobals "sum_of" = some (some (.ref f_sum_of)))
    (l_sum_of : K.lookup f_sum_of = some ⟨oc_sum_of, od_sum_of, .func (PySem.W.fnOf "sum_of" "sum_of" (defArgs s_sum_of) (defBody s_sum_of) (defScope s_sum_of) .none kV_sum_of dc_sum_of pm_sum_of an_sum_of cd_sum_of ct_sum_of), sl_sum_of⟩)
    (e_sum_of : PySem.W.codeIn K cd_sum_of "sum_of" = true)
    (p_sum_of : PySem.W.keepIn K (.ref f_sum_of) = true)
    (a_law_value : PySem.W.nsIn K mainGlobals "_law_value" = some (some (.ref f_law_value)))
    (l_law_value : K.lookup f_law_value = some ⟨oc_law_value, od_law_value, .func (PySem.W.fnOf "_law_value" "_law_value" (defArgs s_law_value) (defBody s_law_value) (defScope s_law_value) .none kV_law_value dc_law_value pm_law_value an_law_value cd_law_value ct_law_value), sl_law_value⟩)
    (e_law_value : PySem.W.codeIn K cd_law_value "_law_value" = true)
    (p_law_value : PySem.W.keepIn K (.ref f_law_value) = true)
    (a_law_same : PySem.W.nsIn K mainGlobals "_law_same" = some (some (.ref f_law_same)))
    (l_law_same : K.lookup f_law_same = some ⟨oc_law_same, od_law_same, .func (PySem.W.fnOf "_law_same" "_law_same" (defArgs s_law_same) (defBody s_law_same) (defScope s_law_same) .none kV_law_same dc_law_same pm_law_same an_law_same cd_law_same ct_law_same), sl_law_same⟩)
    (e_law_same : PySem.W.codeIn K cd_law_same "_law_same" = true)
    (p_law_same : PySem.W.keepIn K (.ref f_law_same) = true)
    (a_law_sum : PySem.W.nsIn K mainGlobals "_law_sum" = some (some (.ref f_law_sum)))
    (l_law_sum : K.lookup f_law_sum = some ⟨oc_law_sum, od_law_sum, .func (PySem.W.fnOf "_law_sum" "_law_sum" (defArgs s_law_sum) (defBody s_law_sum) (defScope s_law_sum) .none kV_law_sum dc_law_sum pm_law_sum an_law_sum cd_law_sum ct_law_sum), sl_law_sum⟩)
    (e_law_sum : PySem.W.codeIn K cd_law_sum "_law_sum" = true)
    (p_law_sum : PySem.W.keepIn K (.ref f_law_sum) = true)
    (a_law_choice : PySem.W.nsIn K mainGlobals "_law_choice" = some (some (.ref f_law_choice)))
    (l_law_choice : K.lookup f_law_choice = some ⟨oc_law_choice, od_law_choice, .func (PySem.W.fnOf "_law_choice" "_law_choice" (defArgs s_law_choice) (defBody s_law_choice) (defScope s_law_choice) .none kV_law_choice dc_law_choice pm_law_choice an_law_choice cd_law_choice ct_law_choice), sl_law_choice⟩)
    (e_law_choice : PySem.W.codeIn K cd_law_choice "_law_choice" = true)
    (p_law_choice : PySem.W.keepIn K (.ref f_law_choice) = true)
    (a_law_pair : PySem.W.nsIn K mainGlobals "_law_pair" = some (some (.ref f_law_pair)))
    (l_law_pair : K.lookup f_law_pair = some ⟨oc_law_pair, od_law_pair, .func (PySem.W.fnOf "_law_pair" "_law_pair" (defArgs s_law_pair) (defBody s_law_pair) (defScope s_law_pair) .none kV_law_pair dc_law_pair pm_law_pair an_law_pair cd_law_pair ct_law_pair), sl_law_pair⟩)
    (e_law_pair : PySem.W.codeIn K cd_law_pair "_law_pair" = true)
    (p_law_pair : PySem.W.keepIn K (.ref f_law_pair) = true)
    (a_law_spread : PySem.W.nsIn K mainGlobals "_law_spread" = some (some (.ref f_law_spread)))
    (l_law_spread : K.lookup f_law_spread = some ⟨oc_law_spread, od_law_spread, .func (PySem.W.fnOf "_law_spread" "_law_spread" (defArgs s_law_spread) (defBody s_law_spread) (defScope s_law_spread) .none kV_law_spread dc_law_spread pm_law_spread an_law_spread cd_law_spread ct_law_spread), sl_law_spread⟩)
    (e_law_spread : PySem.W.codeIn K cd_law_spread "_law_spread" = true)
    (p_law_spread : PySem.W.keepIn K (.ref f_law_spread) = true)
    (a_law_begun : PySem.W.nsIn K mainGlobals "_law_begun" = some (some (.ref f_law_begun)))
    (l_law_begun : K.lookup f_law_begun = some ⟨oc_law_begun, od_law_begun, .func (PySem.W.fnOf "_law_begun" "_law_begun" (defArgs s_law_begun) (defBody s_law_begun) (defScope s_law_begun) .none kV_law_begun dc_law_begun pm_law_begun an_law_begun cd_law_begun ct_law_begun), sl_law_begun⟩)
    (e_law_begun : PySem.W.codeIn K cd_law_begun "_law_begun" = true)
    (p_law_begun : PySem.W.keepIn K (.ref f_law_begun) = true)
    (a_law : PySem.W.nsIn K mainGlobals "law" = some (some (.ref f_law)))
    (l_law : K.lookup f_law = some ⟨oc_law, od_law, .func (PySem.W.fnOf "law" "law" (defArgs s_law) (defBody s_law) (defScope s_law) .none kV_law dc_law pm_law an_law cd_law ct_law), sl_law⟩)
    (e_law : PySem.W.codeIn K cd_law "law" = true)
    (p_law : PySem.W.keepIn K (.ref f_law) = true)
    : ∃ fd : FuncData, (∀ (s : Shared) (v : Value), BindsTo s fd ⟨[v], []⟩ [("_law_script", v)]) ∧ ∀ base : Heap, K.In base → base.Ns mainGlobals mg → FnOk l.prog w K mg base (L2.CX l.prog w) 4 fa fd ["_law_script"] (sp1 (R_law K)) := by
  have e := hfa.symm.trans (PySem.W.mg_of X G a_law)
  cases e
  have T : Txt K mg ⟨0, C_Tally, C_Many, C_Cheapest, C_Longest⟩ := {
    b_bool := ⟨PySem.W.mg_none_of X G b_bool⟩,
    b_int := ⟨PySem.W.mg_none_of X G b_int⟩,
    b_isinstance := ⟨PySem.W.mg_none_of X G b_isinstance⟩,
    b_max := ⟨PySem.W.mg_none_of X G b_max⟩,
    b_min := ⟨PySem.W.mg_none_of X G b_min⟩,
    k_MOST_ROWS := ⟨_, PySem.W.mg_of X G k_MOST_ROWS⟩,
    c_Tally := ⟨PySem.W.mg_of X G g_Tally, ⟨pg_Tally, hd_Tally, po_Tally, sa_Tally⟩, mk_Tally, kc_Tally, ha_Tally, hn_Tally, ht_Tally, hm_Tally, tc_Tally, ic_Tally⟩,
    i_Tally := oi_Tally,
    m_Tally_nothing := ⟨f_m_Tally_nothing, _, ⟨a_m_Tally_nothing, y_m_Tally_nothing, p_m_Tally_nothing⟩, (fun_mk (st := s_Tally_nothing) l_m_Tally_nothing e_m_Tally_nothing p_m_Tally_nothing), ((fun_mk (st := s_Tally_nothing) l_m_Tally_nothing e_m_Tally_nothing p_m_Tally_nothing).binds (ps := ["self"]) fun _ _ _ _ _ _ us hl => match us, hl with | [_], _ => rfl)⟩,
    m_Tally_blank := ⟨f_m_Tally_blank, _, ⟨a_m_Tally_blank, y_m_Tally_blank, p_m_Tally_blank⟩, (fun_mk (st := s_Tally_blank) l_m_Tally_blank e_m_Tally_blank p_m_Tally_blank), ((fun_mk (st := s_Tally_blank) l_m_Tally_blank e_m_Tally_blank p_m_Tally_blank).binds (ps := ["self"]) fun _ _ _ _ _ _ us hl => match us, hl with | [_], _ => rfl)⟩,
    m_Tally_of_rule := ⟨f_m_Tally_of_rule, _, ⟨a_m_Tally_of_rule, y_m_Tally_of_rule, p_m_Tally_of_rule⟩, (fun_mk (st := s_Tally_of_rule) l_m_Tally_of_rule e_m_Tally_of_rule p_m_Tally_of_rule), ((fun_mk (st := s_Tally_of_rule) l_m_Tally_of_rule e_m_Tally_of_rule p_m_Tally_of_rule).binds (ps := ["self", "number", "worth"]) fun _ _ _ _ _ _ us hl => match us, hl with | [_, _, _], _ => rfl)⟩,
    m_Tally_either := ⟨f_m_Tally_either, _, ⟨a_m_Tally_either, y_m_Tally_either, p_m_Tally_either⟩, (fun_mk (st := s_Tally_either) l_m_Tally_either e_m_Tally_either p_m_Tally_either), ((fun_mk (st := s_Tally_either) l_m_Tally_either e_m_Tally_either p_m_Tally_either).binds (ps := ["self", "one", "other"]) fun _ _ _ _ _ _ us hl => match us, hl with | [_, _, _], _ => rfl)⟩,
    m_Tally_both := ⟨f_m_Tally_both, _, ⟨a_m_Tally_both, y_m_Tally_both, p_m_Tally_both⟩, (fun_mk (st := s_Tally_both) l_m_Tally_both e_m_Tally_both p_m_Tally_both), ((fun_mk (st := s_Tally_both) l_m_Tally_both e_m_Tally_both p_m_Tally_both).binds (ps := ["self", "one", "other"]) fun _ _ _ _ _ _ us hl => match us, hl with | [_, _, _], _ => rfl)⟩,
    c_Many := ⟨PySem.W.mg_of X G g_Many, ⟨pg_Many, hd_Many, po_Many, sa_Many⟩, mk_Many, kc_Many, ha_Many, hn_Many, ht_Many, hm_Many, tc_Many, ic_Many⟩,
    i_Many := oi_Many,
    m_Many_nothing := ⟨f_m_Many_nothing, _, ⟨a_m_Many_nothing, y_m_Many_nothing, p_m_Many_nothing⟩, (fun_mk (st := s_Many_nothing) l_m_Many_nothing e_m_Many_nothing p_m_Many_nothing), ((fun_mk (st := s_Many_nothing) l_m_Many_nothing e_m_Many_nothing p_m_Many_nothing).binds (ps := ["self"]) fun _ _ _ _ _ _ us hl => match us, hl with | [_], _ => rfl)⟩,
    m_Many_blank := ⟨f_m_Many_blank, _, ⟨a_m_Many_blank, y_m_Many_blank, p_m_Many_blank⟩, (fun_mk (st := s_Many_blank) l_m_Many_blank e_m_Many_blank p_m_Many_blank), ((fun_mk (st := s_Many_blank) l_m_Many_blank e_m_Many_blank p_m_Many_blank).binds (ps := ["self"]) fun _ _ _ _ _ _ us hl => match us, hl with | [_], _ => rfl)⟩,
    m_Many_of_rule := ⟨f_m_Many_of_rule, _, ⟨a_m_Many_of_rule, y_m_Many_of_rule, p_m_Many_of_rule⟩, (fun_mk (st := s_Many_of_rule) l_m_Many_of_rule e_m_Many_of_rule p_m_Many_of_rule), ((fun_mk (st := s_Many_of_rule) l_m_Many_of_rule e_m_Many_of_rule p_m_Many_of_rule).binds (ps := ["self", "number", "worth"]) fun _ _ _ _ _ _ us hl => match us, hl with | [_, _, _], _ => rfl)⟩,
    m_Many_either := ⟨f_m_Many_either, _, ⟨a_m_Many_either, y_m_Many_either, p_m_Many_either⟩, (fun_mk (st := s_Many_either) l_m_Many_either e_m_Many_either p_m_Many_either), ((fun_mk (st := s_Many_either) l_m_Many_either e_m_Many_either p_m_Many_either).binds (ps := ["self", "one", "other"]) fun _ _ _ _ _ _ us hl => match us, hl with | [_, _, _], _ => rfl)⟩,
    m_Many_both := ⟨f_m_Many_both, _, ⟨a_m_Many_both, y_m_Many_both, p_m_Many_both⟩, (fun_mk (st := s_Many_both) l_m_Many_both e_m_Many_both p_m_Many_both), ((fun_mk (st := s_Many_both) l_m_Many_both e_m_Many_both p_m_Many_both).binds (ps := ["self", "one", "other"]) fun _ _ _ _ _ _ us hl => match us, hl with | [_, _, _], _ => rfl)⟩,
    c_Cheapest := ⟨PySem.W.mg_of X G g_Cheapest, ⟨pg_Cheapest, hd_Cheapest, po_Cheapest, sa_Cheapest⟩, mk_Cheapest, kc_Cheapest, ha_Cheapest, hn_Cheapest, ht_Cheapest, hm_Cheapest, tc_Cheapest, ic_Cheapest⟩,
    i_Cheapest := oi_Cheapest,
    m_Cheapest_nothing := ⟨f_m_Cheapest_nothing, _, ⟨a_m_Cheapest_nothing, y_m_Cheapest_nothing, p_m_Cheapest_nothing⟩, (fun_mk (st := s_Cheapest_nothing) l_m_Cheapest_nothing e_m_Cheapest_nothing p_m_Cheapest_nothing), ((fun_mk (st := s_Cheapest_nothing) l_m_Cheapest_nothing e_m_Cheapest_nothing p_m_Cheapest_nothing).binds (ps := ["self"]) fun _ _ _ _ _ _ us hl => match us, hl with | [_], _ => rfl)⟩,
    m_Cheapest_blank := ⟨f_m_Cheapest_blank, _, ⟨a_m_Cheapest_blank, y_m_Cheapest_blank, p_m_Cheapest_blank⟩, (fun_mk (st := s_Cheapest_blank) l_m_Cheapest_blank e_m_Cheapest_blank p_m_Cheapest_blank), ((fun_mk (st := s_Cheapest_blank) l_m_Cheapest_blank e_m_Cheapest_blank p_m_Cheapest_blank).binds (ps := ["self"]) fun _ _ _ _ _ _ us hl => match us, hl with | [_], _ => rfl)⟩,
    m_Cheapest_of_rule := ⟨f_m_Cheapest_of_rule, _, ⟨a_m_Cheapest_of_rule, y_m_Cheapest_of_rule, p_m_Cheapest_of_rule⟩, (fun_mk (st := s_Cheapest_of_rule) l_m_Cheapest_of_rule e_m_Cheapest_of_rule p_m_Cheapest_of_rule), ((fun_mk (st := s_Cheapest_of_rule) l_m_Cheapest_of_rule e_m_Cheapest_of_rule p_m_Cheapest_of_rule).binds (ps := ["self", "number", "worth"]) fun _ _ _ _ _ _ us hl => match us, hl with | [_, _, _], _ => rfl)⟩,
    m_Cheapest_either := ⟨f_m_Cheapest_either, _, ⟨a_m_Cheapest_either, y_m_Cheapest_either, p_m_Cheapest_either⟩, (fun_mk (st := s_Cheapest_either) l_m_Cheapest_either e_m_Cheapest_either p_m_Cheapest_either), ((fun_mk (st := s_Cheapest_either) l_m_Cheapest_either e_m_Cheapest_either p_m_Cheapest_either).binds (ps := ["self", "one", "other"]) fun _ _ _ _ _ _ us hl => match us, hl with | [_, _, _], _ => rfl)⟩,
    m_Cheapest_both := ⟨f_m_Cheapest_both, _, ⟨a_m_Cheapest_both, y_m_Cheapest_both, p_m_Cheapest_both⟩, (fun_mk (st := s_Cheapest_both) l_m_Cheapest_both e_m_Cheapest_both p_m_Cheapest_both), ((fun_mk (st := s_Cheapest_both) l_m_Cheapest_both e_m_Cheapest_both p_m_Cheapest_both).binds (ps := ["self", "one", "other"]) fun _ _ _ _ _ _ us hl => match us, hl with | [_, _, _], _ => rfl)⟩,
    c_Longest := ⟨PySem.W.mg_of X G g_Longest, ⟨pg_Longest, hd_Longest, po_Longest, sa_Longest⟩, mk_Longest, kc_Longest, ha_Longest, hn_Longest, ht_Longest, hm_Longest, tc_Longest, ic_Longest⟩,
    i_Longest := oi_Longest,
    m_Longest_nothing := ⟨f_m_Longest_nothing, _, ⟨a_m_Longest_nothing, y_m_Longest_nothing, p_m_Longest_nothing⟩, (fun_mk (st := s_Longest_nothing) l_m_Longest_nothing e_m_Longest_nothing p_m_Longest_nothing), ((fun_mk (st := s_Longest_nothing) l_m_Longest_nothing e_m_Longest_nothing p_m_Longest_nothing).binds (ps := ["self"]) fun _ _ _ _ _ _ us hl => match us, hl with | [_], _ => rfl)⟩,
    m_Longest_blank := ⟨f_m_Longest_blank, _, ⟨a_m_Longest_blank, y_m_Longest_blank, p_m_Longest_blank⟩, (fun_mk (st := s_Longest_blank) l_m_Longest_blank e_m_Longest_blank p_m_Longest_blank), ((fun_mk (st := s_Longest_blank) l_m_Longest_blank e_m_Longest_blank p_m_Longest_blank).binds (ps := ["self"]) fun _ _ _ _ _ _ us hl => match us, hl with | [_], _ => rfl)⟩,
    m_Longest_of_rule := ⟨f_m_Longest_of_rule, _, ⟨a_m_Longest_of_rule, y_m_Longest_of_rule, p_m_Longest_of_rule⟩, (fun_mk (st := s_Longest_of_rule) l_m_Longest_of_rule e_m_Longest_of_rule p_m_Longest_of_rule), ((fun_mk (st := s_Longest_of_rule) l_m_Longest_of_rule e_m_Longest_of_rule p_m_Longest_of_rule).binds (ps := ["self", "number", "worth"]) fun _ _ _ _ _ _ us hl => match us, hl with | [_, _, _], _ => rfl)⟩,
    m_Longest_either := ⟨f_m_Longest_either, _, ⟨a_m_Longest_either, y_m_Longest_either, p_m_Longest_either⟩, (fun_mk (st := s_Longest_either) l_m_Longest_either e_m_Longest_either p_m_Longest_either), ((fun_mk (st := s_Longest_either) l_m_Longest_either e_m_Longest_either p_m_Longest_either).binds (ps := ["self", "one", "other"]) fun _ _ _ _ _ _ us hl => match us, hl with | [_, _, _], _ => rfl)⟩,
    m_Longest_both := ⟨f_m_Longest_both, _, ⟨a_m_Longest_both, y_m_Longest_both, p_m_Longest_both⟩, (fun_mk (st := s_Longest_both) l_m_Longest_both e_m_Longest_both p_m_Longest_both), ((fun_mk (st := s_Longest_both) l_m_Longest_both e_m_Longest_both p_m_Longest_both).binds (ps := ["self", "one", "other"]) fun _ _ _ _ _ _ us hl => match us, hl with | [_, _, _], _ => rfl)⟩,
    s_Tally_Tally := su_Tally_Tally,
    s_Tally_Many := su_Tally_Many,
    s_Tally_Cheapest := su_Tally_Cheapest,
    s_Tally_Longest := su_Tally_Longest,
    s_Many_Tally := su_Many_Tally,
    s_Many_Many := su_Many_Many,
    s_Many_Cheapest := su_Many_Cheapest,
    s_Many_Longest := su_Many_Longest,
    s_Cheapest_Tally := su_Cheapest_Tally,
    s_Cheapest_Many := su_Cheapest_Many,
    s_Cheapest_Cheapest := su_Cheapest_Cheapest,
    s_Cheapest_Longest := su_Cheapest_Longest,
    s_Longest_Tally := su_Longest_Tally,
    s_Longest_Many := su_Longest_Many,
    s_Longest_Cheapest := su_Longest_Cheapest,
    s_Longest_Longest := su_Longest_Longest,
    f_less_of := ⟨f_less_of, _, PySem.W.mg_of X G a_less_of, (fun_mk (st := s_less_of) l_less_of e_less_of p_less_of), ((fun_mk (st := s_less_of) l_less_of e_less_of p_less_of).binds (ps := ["one", "other"]) fun _ _ _ _ _ _ us hl => match us, hl with | [_, _], _ => rfl)⟩,
    f_more_of := ⟨f_more_of, _, PySem.W.mg_of X G a_more_of, (fun_mk (st := s_more_of) l_more_of e_more_of p_more_of), ((fun_mk (st := s_more_of) l_more_of e_more_of p_more_of).binds (ps := ["one", "other"]) fun _ _ _ _ _ _ us hl => match us, hl with | [_, _], _ => rfl)⟩,
    f_sum_of := ⟨f_sum_of, _, PySem.W.mg_of X G a_sum_of, (fun_mk (st := s_sum_of) l_sum_of e_sum_of p_sum_of), ((fun_mk (st := s_sum_of) l_sum_of e_sum_of p_sum_of).binds (ps := ["one", "other"]) fun _ _ _ _ _ _ us hl => match us, hl with | [_, _], _ => rfl)⟩,
    f_law_value := ⟨f_law_value, _, PySem.W.mg_of X G a_law_value, (fun_mk (st := s_law_value) l_law_value e_law_value p_law_value), ((fun_mk (st := s_law_value) l_law_value e_law_value p_law_value).binds (ps := ["_law_cell"]) fun _ _ _ _ _ _ us hl => match us, hl with | [_], _ => rfl)⟩,
    f_law_same := ⟨f_law_same, _, PySem.W.mg_of X G a_law_same, (fun_mk (st := s_law_same) l_law_same e_law_same p_law_same), ((fun_mk (st := s_law_same) l_law_same e_law_same p_law_same).binds (ps := ["_law_found", "_law_due"]) fun _ _ _ _ _ _ us hl => match us, hl with | [_, _], _ => rfl)⟩,
    f_law_sum := ⟨f_law_sum, _, PySem.W.mg_of X G a_law_sum, (fun_mk (st := s_law_sum) l_law_sum e_law_sum p_law_sum), ((fun_mk (st := s_law_sum) l_law_sum e_law_sum p_law_sum).binds (ps := ["_law_one", "_law_other"]) fun _ _ _ _ _ _ us hl => match us, hl with | [_, _], _ => rfl)⟩,
    f_law_choice := ⟨f_law_choice, _, PySem.W.mg_of X G a_law_choice, (fun_mk (st := s_law_choice) l_law_choice e_law_choice p_law_choice), ((fun_mk (st := s_law_choice) l_law_choice e_law_choice p_law_choice).binds (ps := ["_law_one", "_law_other", "_law_greater"]) fun _ _ _ _ _ _ us hl => match us, hl with | [_, _, _], _ => rfl)⟩,
    f_law_pair := ⟨f_law_pair, _, PySem.W.mg_of X G a_law_pair, (fun_mk (st := s_law_pair) l_law_pair e_law_pair p_law_pair), ((fun_mk (st := s_law_pair) l_law_pair e_law_pair p_law_pair).binds (ps := ["_law_tally", "_law_one", "_law_other", "_law_greater"]) fun _ _ _ _ _ _ us hl => match us, hl with | [_, _, _, _], _ => rfl)⟩,
    f_law_spread := ⟨f_law_spread, _, PySem.W.mg_of X G a_law_spread, (fun_mk (st := s_law_spread) l_law_spread e_law_spread p_law_spread), ((fun_mk (st := s_law_spread) l_law_spread e_law_spread p_law_spread).binds (ps := ["_law_tally", "_law_one", "_law_two", "_law_three"]) fun _ _ _ _ _ _ us hl => match us, hl with | [_, _, _, _], _ => rfl)⟩,
    f_law_begun := ⟨f_law_begun, _, PySem.W.mg_of X G a_law_begun, (fun_mk (st := s_law_begun) l_law_begun e_law_begun p_law_begun), ((fun_mk (st := s_law_begun) l_law_begun e_law_begun p_law_begun).binds (ps := ["_law_tally", "_law_number", "_law_worth", "_law_due"]) fun _ _ _ _ _ _ us hl => match us, hl with | [_, _, _, _], _ => rfl)⟩ }
  exact ⟨PySem.W.fnOf "law" "law" (defArgs s_law) (defBody s_law) (defScope s_law) .none kV_law dc_law pm_law an_law cd_law ct_law, fun s v => .of_eq rfl, fun base _ _ => ok_law (fun_mk (st := s_law) l_law e_law p_law) T⟩
theorem walk {l : PySem.W.OpenLaw} {q : Program} {loose : List Str} {XP : (Str → Option Value) → Heap → Prop} {YP : World → Heap → Prop} {d : DefRec} {K : Params → PySem.W.Frag} (hn : l.most = some 63) (hdf : d.params.defaults = [])
    (hY : ∀ (w : World) (h : Heap), YP w h → (K w.params).In h)
    (F : ∀ (w : World) (mg : Str → Option Value) (fa : Addr) (h : Heap), (K w.params).In h → h.Ns mainGlobals mg → mg d.name = some (.ref fa) →
      ∃ fd : FuncData, (∀ (s : Shared) (u : Value), BindsTo s fd ⟨[u], []⟩ [("_law_script", u)]) ∧ ∀ base : Heap, (K w.params).In base → base.Ns mainGlobals mg → FnOk l.prog w (K w.params) mg base (L2.CX l.prog w) 4 fa fd ["_law_script"] (sp1 (R_law (K w.params)))) :
    PySem.W.WalkO q loose XP YP l.row.toRowW d [] (fun f vs => PySem.call f vs) :=
  L2.walk_of (n := 63) (k := 4) (x := "_law_script") (CX := fun w => L2.CX l.prog w) (sp := fun w => sp1 (R_law (K w.params))) hn (by decide) hdf ⟨rfl, by decide, by decide⟩ hY F (fun _ _ a ns hl _ hS => ⟨_, rfl, a, ns, rfl, hS, hl, fun _ => rfl⟩) fun w H s e s' h => by
    obtain ⟨_, _, _, _, _, _, _, _, _, _, _, _, z⟩ := h
    exact z
end Lw
open PySem PySem.W PyProof.Rows
set_option maxRecDepth 100000 in
set_option maxHeartbeats 0 in
theorem PySem.Challenge.cw_forestread_k41_least_and_longest_holds : PySem.Challenge.rw_forestread_k41_least_and_longest.Holds := by
  w_on; o_law; k_head; (case hw => w_witness2)
  k_fill
  refine Lw.walk (l := PySem.Challenge.rw_forestread_k41_least_and_longest) rfl rfl (fun w h Y => PySem.W.kIn_of Y) ?F
  case F =>
    intro w mg fa h KX G hmg
    refine' Lw.all_mk KX G hmg ?b_bool ?b_int ?b_isinstance ?b_max ?b_min ?k_MOST_ROWS ?g_Tally ?pg_Tally ?hd_Tally ?po_Tally ?sa_Tally ?mk_Tally ?kc_Tally ?ha_Tally ?hn_Tally ?ht_Tally ?hm_Tally ?tc_Tally ?ic_Tally ?oi_Tally ?a_m_Tally_nothing ?y_m_Tally_nothing ?l_m_Tally_nothing ?e_m_Tally_nothing ?p_m_Tally_nothing ?a_m_Tally_blank ?y_m_Tally_blank ?l_m_Tally_blank ?e_m_Tally_blank ?p_m_Tally_blank ?a_m_Tally_of_rule ?y_m_Tally_of_rule ?l_m_Tally_of_rule ?e_m_Tally_of_rule ?p_m_Tally_of_rule ?a_m_Tally_either ?y_m_Tally_either ?l_m_Tally_either ?e_m_Tally_either ?p_m_Tally_either ?a_m_Tally_both ?y_m_Tally_both ?l_m_Tally_both ?e_m_Tally_both ?p_m_Tally_both ?g_Many ?pg_Many ?hd_Many ?po_Many ?sa_Many ?mk_Many ?kc_Many ?ha_Many ?hn_Many ?ht_Many ?hm_Many ?tc_Many ?ic_Many ?oi_Many ?a_m_Many_nothing ?y_m_Many_nothing ?l_m_Many_nothing ?e_m_Many_nothing ?p_m_Many_nothing ?a_m_Many_blank ?y_m_Many_blank ?l_m_Many_blank ?e_m_Many_blank ?p_m_Many_blank ?a_m_Many_of_rule ?y_m_Many_of_rule ?l_m_Many_of_rule ?e_m_Many_of_rule ?p_m_Many_of_rule ?a_m_Many_either ?y_m_Many_either ?l_m_Many_either ?e_m_Many_either ?p_m_Many_either ?a_m_Many_both ?y_m_Many_both ?l_m_Many_both ?e_m_Many_both ?p_m_Many_both ?g_Cheapest ?pg_Cheapest ?hd_Cheapest ?po_Cheapest ?sa_Cheapest ?mk_Cheapest ?kc_Cheapest ?ha_Cheapest ?hn_Cheapest ?ht_Cheapest ?hm_Cheapest ?tc_Cheapest ?ic_Cheapest ?oi_Cheapest ?a_m_Cheapest_nothing ?y_m_Cheapest_nothing ?l_m_Cheapest_nothing ?e_m_Cheapest_nothing ?p_m_Cheapest_nothing ?a_m_Cheapest_blank ?y_m_Cheapest_blank ?l_m_Cheapest_blank ?e_m_Cheapest_blank ?p_m_Cheapest_blank ?a_m_Cheapest_of_rule ?y_m_Cheapest_of_rule ?l_m_Cheapest_of_rule ?e_m_Cheapest_of_rule ?p_m_Cheapest_of_rule ?a_m_Cheapest_either ?y_m_Cheapest_either ?l_m_Cheapest_either ?e_m_Cheapest_either ?p_m_Cheapest_either ?a_m_Cheapest_both ?y_m_Cheapest_both ?l_m_Cheapest_both ?e_m_Cheapest_both ?p_m_Cheapest_both ?g_Longest ?pg_Longest ?hd_Longest ?po_Longest ?sa_Longest ?mk_Longest ?kc_Longest ?ha_Longest ?hn_Longest ?ht_Longest ?hm_Longest ?tc_Longest ?ic_Longest ?oi_Longest ?a_m_Longest_nothing ?y_m_Longest_nothing ?l_m_Longest_nothing ?e_m_Longest_nothing ?p_m_Longest_nothing ?a_m_Longest_blank ?y_m_Longest_blank ?l_m_Longest_blank ?e_m_Longest_blank ?p_m_Longest_blank ?a_m_Longest_of_rule ?y_m_Longest_of_rule ?l_m_Longest_of_rule ?e_m_Longest_of_rule ?p_m_Longest_of_rule ?a_m_Longest_either ?y_m_Longest_either ?l_m_Longest_either ?e_m_Longest_either ?p_m_Longest_either ?a_m_Longest_both ?y_m_Longest_both ?l_m_Longest_both ?e_m_Longest_both ?p_m_Longest_both ?su_Tally_Tally ?su_Tally_Many ?su_Tally_Cheapest ?su_Tally_Longest ?su_Many_Tally ?su_Many_Many ?su_Many_Cheapest ?su_Many_Longest ?su_Cheapest_Tally ?su_Cheapest_Many ?su_Cheapest_Cheapest ?su_Cheapest_Longest ?su_Longest_Tally ?su_Longest_Many ?su_Longest_Cheapest ?su_Longest_Longest ?a_less_of ?l_less_of ?e_less_of ?p_less_of ?a_more_of ?l_more_of ?e_more_of ?p_more_of ?a_sum_of ?l_sum_of ?e_sum_of ?p_sum_of ?a_law_value ?l_law_value ?e_law_value ?p_law_value ?a_law_same ?l_law_same ?e_law_same ?p_law_same ?a_law_sum ?l_law_sum ?e_law_sum ?p_law_sum ?a_law_choice ?l_law_choice ?e_law_choice ?p_law_choice ?a_law_pair ?l_law_pair ?e_law_pair ?p_law_pair ?a_law_spread ?l_law_spread ?e_law_spread ?p_law_spread ?a_law_begun ?l_law_begun ?e_law_begun ?p_law_begun ?a_law ?l_law ?e_law ?p_law
    (case b_bool => k_is)
    (case b_int => k_is)
    (case b_isinstance => k_is)
    (case b_max => k_is)
    (case b_min => k_is)
    (case k_MOST_ROWS => k_is)
    (case g_Tally => k_is)
    (case pg_Tally => k_is)
    (case hd_Tally => k_is)
    (case po_Tally => k_is)
    (case sa_Tally => k_is)
    (case mk_Tally => k_is)
    (case kc_Tally => k_is)
    (case ha_Tally => k_is)
    (case hn_Tally => k_is)
    (case ht_Tally => k_is)
    (case hm_Tally => k_is)
    (case tc_Tally => k_is)
    (case ic_Tally => k_is)
    (case oi_Tally => k_is)
    (case a_m_Tally_nothing => k_is)
    (case y_m_Tally_nothing => k_is)
    (case l_m_Tally_nothing => k_is)
    (case e_m_Tally_nothing => k_is)
    (case p_m_Tally_nothing => k_is)
    (case a_m_Tally_blank => k_is)
    (case y_m_Tally_blank => k_is)
    (case l_m_Tally_blank => k_is)
    (case e_m_Tally_blank => k_is)
    (case p_m_Tally_blank => k_is)
    (case a_m_Tally_of_rule => k_is)
    (case y_m_Tally_of_rule => k_is)
    (case l_m_Tally_of_rule => k_is)
    (case e_m_Tally_of_rule => k_is)
    (case p_m_Tally_of_rule => k_is)
    (case a_m_Tally_either => k_is)
    (case y_m_Tally_either => k_is)
    (case l_m_Tally_either => k_is)
    (case e_m_Tally_either => k_is)
    (case p_m_Tally_either => k_is)
    (case a_m_Tally_both => k_is)
    (case y_m_Tally_both => k_is)
    (case l_m_Tally_both => k_is)
    (case e_m_Tally_both => k_is)
    (case p_m_Tally_both => k_is)
    (case g_Many => k_is)
    (case pg_Many => k_is)
    (case hd_Many => k_is)
    (case po_Many => k_is)
    (case sa_Many => k_is)
    (case mk_Many => k_is)
    (case kc_Many => k_is)
    (case ha_Many => k_is)
    (case hn_Many => k_is)
    (case ht_Many => k_is)
    (case hm_Many => k_is)
    (case tc_Many => k_is)
    (case ic_Many => k_is)
    (case oi_Many => k_is)
    (case a_m_Many_nothing => k_is)
    (case y_m_Many_nothing => k_is)
    (case l_m_Many_nothing => k_is)
    (case e_m_Many_nothing => k_is)
    (case p_m_Many_nothing => k_is)
    (case a_m_Many_blank => k_is)
    (case y_m_Many_blank => k_is)
    (case l_m_Many_blank => k_is)
    (case e_m_Many_blank => k_is)
    (case p_m_Many_blank => k_is)
    (case a_m_Many_of_rule => k_is)
    (case y_m_Many_of_rule => k_is)
    (case l_m_Many_of_rule => k_is)
    (case e_m_Many_of_rule => k_is)
    (case p_m_Many_of_rule => k_is)
    (case a_m_Many_either => k_is)
    (case y_m_Many_either => k_is)
    (case l_m_Many_either => k_is)
    (case e_m_Many_either => k_is)
    (case p_m_Many_either => k_is)
    (case a_m_Many_both => k_is)
    (case y_m_Many_both => k_is)
    (case l_m_Many_both => k_is)
    (case e_m_Many_both => k_is)
    (case p_m_Many_both => k_is)
    (case g_Cheapest => k_is)
    (case pg_Cheapest => k_is)
    (case hd_Cheapest => k_is)
    (case po_Cheapest => k_is)
    (case sa_Cheapest => k_is)
    (case mk_Cheapest => k_is)
    (case kc_Cheapest => k_is)
    (case ha_Cheapest => k_is)
    (case hn_Cheapest => k_is)
    (case ht_Cheapest => k_is)
    (case hm_Cheapest => k_is)
    (case tc_Cheapest => k_is)
    (case ic_Cheapest => k_is)
    (case oi_Cheapest => k_is)
    (case a_m_Cheapest_nothing => k_is)
    (case y_m_Cheapest_nothing => k_is)
    (case l_m_Cheapest_nothing => k_is)
    (case e_m_Cheapest_nothing => k_is)
    (case p_m_Cheapest_nothing => k_is)
    (case a_m_Cheapest_blank => k_is)
    (case y_m_Cheapest_blank => k_is)
    (case l_m_Cheapest_blank => k_is)
    (case e_m_Cheapest_blank => k_is)
    (case p_m_Cheapest_blank => k_is)
    (case a_m_Cheapest_of_rule => k_is)
    (case y_m_Cheapest_of_rule => k_is)
    (case l_m_Cheapest_of_rule => k_is)
    (case e_m_Cheapest_of_rule => k_is)
    (case p_m_Cheapest_of_rule => k_is)
    (case a_m_Cheapest_either => k_is)
    (case y_m_Cheapest_either => k_is)
    (case l_m_Cheapest_either => k_is)
    (case e_m_Cheapest_either => k_is)
    (case p_m_Cheapest_either => k_is)
    (case a_m_Cheapest_both => k_is)
    (case y_m_Cheapest_both => k_is)
    (case l_m_Cheapest_both => k_is)
    (case e_m_Cheapest_both => k_is)
    (case p_m_Cheapest_both => k_is)
    (case g_Longest => k_is)
    (case pg_Longest => k_is)
    (case hd_Longest => k_is)
    (case po_Longest => k_is)
    (case sa_Longest => k_is)
    (case mk_Longest => k_is)
    (case kc_Longest => k_is)
    (case ha_Longest => k_is)
    (case hn_Longest => k_is)
    (case ht_Longest => k_is)
    (case hm_Longest => k_is)
    (case tc_Longest => k_is)
    (case ic_Longest => k_is)
    (case oi_Longest => k_is)
    (case a_m_Longest_nothing => k_is)
    (case y_m_Longest_nothing => k_is)
    (case l_m_Longest_nothing => k_is)
    (case e_m_Longest_nothing => k_is)
    (case p_m_Longest_nothing => k_is)
    (case a_m_Longest_blank => k_is)
    (case y_m_Longest_blank => k_is)
    (case l_m_Longest_blank => k_is)
    (case e_m_Longest_blank => k_is)
    (case p_m_Longest_blank => k_is)
    (case a_m_Longest_of_rule => k_is)
    (case y_m_Longest_of_rule => k_is)
    (case l_m_Longest_of_rule => k_is)
    (case e_m_Longest_of_rule => k_is)
    (case p_m_Longest_of_rule => k_is)
    (case a_m_Longest_either => k_is)
    (case y_m_Longest_either => k_is)
    (case l_m_Longest_either => k_is)
    (case e_m_Longest_either => k_is)
    (case p_m_Longest_either => k_is)
    (case a_m_Longest_both => k_is)
    (case y_m_Longest_both => k_is)
    (case l_m_Longest_both => k_is)
    (case e_m_Longest_both => k_is)
    (case p_m_Longest_both => k_is)
    (case su_Tally_Tally => first | k_is | rfl | decide)
    (case su_Tally_Many => first | k_is | rfl | decide)
    (case su_Tally_Cheapest => first | k_is | rfl | decide)
    (case su_Tally_Longest => first | k_is | rfl | decide)
    (case su_Many_Tally => first | k_is | rfl | decide)
    (case su_Many_Many => first | k_is | rfl | decide)
    (case su_Many_Cheapest => first | k_is | rfl | decide)
    (case su_Many_Longest => first | k_is | rfl | decide)
    (case su_Cheapest_Tally => first | k_is | rfl | decide)
    (case su_Cheapest_Many => first | k_is | rfl | decide)
    (case su_Cheapest_Cheapest => first | k_is | rfl | decide)
    (case su_Cheapest_Longest => first | k_is | rfl | decide)
    (case su_Longest_Tally => first | k_is | rfl | decide)
    (case su_Longest_Many => first | k_is | rfl | decide)
    (case su_Longest_Cheapest => first | k_is | rfl | decide)
    (case su_Longest_Longest => first | k_is | rfl | decide)
    (case a_less_of => k_is)
    (case l_less_of => k_is)
    (case e_less_of => k_is)
    (case p_less_of => k_is)
    (case a_more_of => k_is)
    (case l_more_of => k_is)
    (case e_more_of => k_is)
    (case p_more_of => k_is)
    (case a_sum_of => k_is)
    (case l_sum_of => k_is)
    (case e_sum_of => k_is)
    (case p_sum_of => k_is)
    (case a_law_value => k_is)
    (case l_law_value => k_is)
    (case e_law_value => k_is)
    (case p_law_value => k_is)
    (case a_law_same => k_is)
    (case l_law_same => k_is)
    (case e_law_same => k_is)
    (case p_law_same => k_is)
    (case a_law_sum => k_is)
    (case l_law_sum => k_is)
    (case e_law_sum => k_is)
    (case p_law_sum => k_is)
    (case a_law_choice => k_is)
    (case l_law_choice => k_is)
    (case e_law_choice => k_is)
    (case p_law_choice => k_is)
    (case a_law_pair => k_is)
    (case l_law_pair => k_is)
    (case e_law_pair => k_is)
    (case p_law_pair => k_is)
    (case a_law_spread => k_is)
    (case l_law_spread => k_is)
    (case e_law_spread => k_is)
    (case p_law_spread => k_is)
    (case a_law_begun => k_is)
    (case l_law_begun => k_is)
    (case e_law_begun => k_is)
    (case p_law_begun => k_is)
    (case a_law => k_is)
    (case l_law => k_is)
    (case e_law => k_is)
    (case p_law => k_is)
