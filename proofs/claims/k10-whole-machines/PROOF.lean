import PyProof.Rows.All
import Wide.All
import OpenK.AllK
import Wide.FinOn
import KE.KStateDown
import HandS.ForMost
import HandS.Exc
import HandS.ExcOwn
import HandS.ExcInit
import HandS.ExcField
import HandS.ExcIs
import HandS.WordsExc
import HandS.TryOnly
import HandS.Lambda
import HandS.AnyAll
import HandS.IsInst
import HandS.Zip
import HandS.TupAny
import HandS.Wide
import HandS.DictTup
import HandS.Defaults
import HandS.Evl
import HandS.Deep
import HandS.SortOrd
import HandS.SortKw
import HandS.Small
import HandS.Walk
import HandS.Flow
import HandS.Style
import HandS.Conv
import HandS.Head0
import HandS.Head1
import HandS.Head2
import HandS.HeadHook1
import HandS.HeadHook2
import HandS.HeadHook3
import HandS.HeadHook4
import HandS.HeadWalk
import PySem.Challenge.RW_staged_k10_whole_machines
import KE.KExcIs
import KE.GoesEnum
import KE.GoesZip
import HandS.Flt
import PyProof.ExcBaseAll.ValueError
set_option Elab.async false
set_option linter.all false
set_option maxRecDepth 100000
set_option maxHeartbeats 4000000
namespace M10
open PySem PySem.Spec PyProof.Rows L2
/-! ### the text by places -/
def top (i : Nat) : Stmt := PySem.Challenge.pw_staged_k10_whole_machines.main.body.getD i (.Pass ⟨0, 0, 0, 0⟩)
abbrev m_Stuck_init : Stmt := inClass (top 5) 0
abbrev s_is_in : Stmt := top 10
abbrev s_is_tuple : Stmt := top 11
abbrev s_worked : Stmt := top 15
abbrev s_need_lates : Stmt := top 16
abbrev s_need_fuel : Stmt := top 17
abbrev s_is_entry : Stmt := top 24
abbrev s_is_instruction : Stmt := top 25
abbrev s_need_code : Stmt := top 26
abbrev m_Machine_init : Stmt := inClass (top 28) 0
abbrev m_Machine_take : Stmt := inClass (top 28) 1
abbrev m_Machine_put : Stmt := inClass (top 28) 2
abbrev m_Machine_compute : Stmt := inClass (top 28) 3
abbrev m_Machine_enter : Stmt := inClass (top 28) 4
abbrev m_Machine_leave : Stmt := inClass (top 28) 5
abbrev m_Machine_step : Stmt := inClass (top 28) 6
abbrev m_Machine_plain_step : Stmt := inClass (top 28) 7
abbrev s_machine_run : Stmt := top 29
abbrev s_needs : Stmt := top 30
abbrev s_nexts : Stmt := top 31
abbrev s_is_sound : Stmt := top 32
abbrev s_spans : Stmt := top 33
abbrev s_put_heights : Stmt := top 34
abbrev s_heights_of : Stmt := top 35
abbrev s_heights : Stmt := top 36
abbrev s_deepest : Stmt := top 37
abbrev s_law_taken : Stmt := top 39
abbrev s_law_pick : Stmt := top 40
abbrev s_law_alike : Stmt := top 41
abbrev s_law_name : Stmt := top 42
abbrev s_law_expression : Stmt := top 43
abbrev s_law_move : Stmt := top 44
abbrev s_law_is_early : Stmt := top 45
abbrev s_law_test : Stmt := top 46
abbrev s_law_program : Stmt := top 47
abbrev s_law_parts : Stmt := top 48
abbrev s_law_calls : Stmt := top 50
abbrev s_law_body : Stmt := top 51
abbrev s_law_lates : Stmt := top 52
abbrev s_law_worked : Stmt := top 53
abbrev s_law_moved : Stmt := top 54
abbrev s_law_holds : Stmt := top 55
abbrev s_law_left : Stmt := top 56
abbrev s_law_called : Stmt := top 57
abbrev s_law_points : Stmt := top 58
abbrev s_law_staged : Stmt := top 60
abbrev s_law_put : Stmt := top 61
abbrev s_law_code : Stmt := top 62
abbrev s_law_plain : Stmt := top 63
abbrev s_law_told : Stmt := top 66
abbrev s_law_machine : Stmt := top 67
abbrev s_law_heights : Stmt := top 68
abbrev s_law : Stmt := top 69
end M10
set_option Elab.async false
set_option linter.all false
set_option maxRecDepth 100000
set_option maxHeartbeats 4000000
namespace M10
open PySem PySem.Spec PyProof.Rows L2 Evl
/-! ### defs by name -/
/-- a def of the text: where it stands, how it binds -/
def Dd (K : PySem.W.Frag) (mg : Str → Option Value) (x : Str) (st : Stmt) (ps : List Str) : Prop :=
  ∃ f fd, L2.Fun K x x st f fd ∧ mg x = some (.ref f) ∧ Binds K fd ps []
/-- a def that keeps a promise -/
def Dn (P : Program) (w : World) (K : PySem.W.Frag) (mg : Str → Option Value) (base : Heap) (CX : CXT) (k : Nat) (x : Str) (sp : Sp) : Prop :=
  ∃ f fd ps, FnOk P w K mg base CX k f fd ps sp ∧ mg x = some (.ref f) ∧ PySem.W.keepIn K (.ref f) = true ∧ Binds K fd ps []
/-- a method of the class at C that keeps a promise -/
def Dm (P : Program) (w : World) (K : PySem.W.Frag) (mg : Str → Option Value) (base : Heap) (CX : CXT) (k : Nat) (C : Addr) (m : Str) (sp : Sp) : Prop :=
  ∃ f fd ps, Meth K C m f ∧ FnOk P w K mg base CX k f fd ps sp ∧ Binds K fd ps []
section
variable {P : Program} {w : World} {K : PySem.W.Frag} {mg : Str → Option Value} {base : Heap} {CX : CXT} {x : Str} {sp sp' : Sp} {j k : Nat}
theorem Dn.mono (d : Dn P w K mg base CX j x sp) (h : j ≤ k) : Dn P w K mg base CX k x sp := by
  obtain ⟨f, fd, ps, F, r⟩ := d
  exact ⟨f, fd, ps, F.mono h, r⟩
theorem Dn.imp (d : Dn P w K mg base CX k x sp) (h : ∀ vs H Q E, sp' vs H Q E → sp vs H Q E) : Dn P w K mg base CX k x sp' := by
  obtain ⟨f, fd, ps, F, r⟩ := d
  exact ⟨f, fd, ps, F.imp h, r⟩
/-- THE RULE for a def that lets nothing out -/
theorem Dd.ok {st : Stmt} {N ps : List Str} (D : Dd K mg x st ps) (S : FnScope N ps (defScope st)) (len : ∀ vs H Q E, sp vs H Q E → vs.length = ps.length)
    (hbody : ∀ (f : Addr) (cdv : Value) (A : Around) (outer : List Env) (s : Shared) (H : Hp) (vs : List V) (Q : VK) (E : XK), Room k (A.deeper (envOfC x (defScope st) s.heap.objs.size f cdv)) → sp vs H Q E →
      ∃ t, PSs (cxOf L2.CX0 P w K mg base N x (defScope st) f cdv A outer s H E).nox (defBody st) t ∧ t { nx := fun _ H' => Q .non H', rt := Q } (start N vs) H) : Dn P w K mg base L2.CX0 (k + 1) x sp := by
  obtain ⟨f, fd, F, g, b⟩ := D
  exact ⟨f, fd, ps, F.ok S len (fun cdv A outer s H vs Q E hr h => hbody f cdv A outer s H vs Q E hr h), g, F.kp, b⟩
theorem Dd.okX {st : Stmt} {N ps : List Str} (D : Dd K mg x st ps) (S : FnScope N ps (defScope st)) (len : ∀ vs H Q E, sp vs H Q E → vs.length = ps.length)
    (hbody : ∀ (f : Addr) (cdv : Value) (A : Around) (outer : List Env) (s : Shared) (H : Hp) (vs : List V) (Q : VK) (E : XK), Room k (A.deeper (envOfC x (defScope st) s.heap.objs.size f cdv)) → sp vs H Q E →
      ∃ t, PSs (cxOf (L2.CX P w) P w K mg base N x (defScope st) f cdv A outer s H E) (defBody st) t ∧ t { nx := fun _ H' => Q .non H', rt := Q } (start N vs) H) : Dn P w K mg base (L2.CX P w) (k + 1) x sp := by
  obtain ⟨f, fd, F, g, b⟩ := D
  exact ⟨f, fd, ps, F.okX S len (fun cdv A outer s H vs Q E hr h => hbody f cdv A outer s H vs Q E hr h), g, F.kp, b⟩
/-- a promise that is never asked -/
theorem Dd.none {st : Stmt} {ps : List Str} (D : Dd K mg x st ps) (no : ∀ vs H Q E, ¬ sp vs H Q E) : Dn P w K mg base CX k x sp := by
  obtain ⟨f, fd, F, g, b⟩ := D
  exact ⟨f, fd, ps, ⟨fun vs H Q E h => absurd h (no vs H Q E), fun A outer s H args us vs Q E _ _ _ _ h => absurd h (no vs H Q E)⟩, g, F.kp, b⟩
end
/-- what is raised leaves the def -/
theorem pX {P : Program} {w : World} {K : PySem.W.Frag} {mg : Str → Option Value} {base : Heap} {N : List Str} {q : Str} {sc : Scope} {f : Addr} {cdv : Value} {A : Around} {outer : List Env} {s : Shared} {H : Hp} {E : XK} :
    Passes (L2.CX P w) (cxOf (L2.CX P w) P w K mg base N q sc f cdv A outer s H E) E :=
  passes_call (takes_of rfl rfl rfl rfl) fun _ _ _ _ h => h
/-! ### calls -/
def tCe (sp : Sp) (E : XK) (t : TA) : TE := fun σ H Q => t σ H fun vs H1 => sp vs H1 Q E
abbrev tCl (sp : Sp) (t : TA) : TE := tCe sp L2.E0 t
def tMe (C : Addr) (m : Str) (sp : Sp) (E : XK) (ta : TE) (t : TA) : TE := fun σ H Q => ta σ H fun x H1 => ∃ a dx fs, x = .ref a ∧ H1 a = some (.ins C dx fs) ∧ fs.lookup m = none ∧ t σ H1 fun vs H2 => sp (x :: vs) H2 Q E
section
variable {X : Cx} {x m : Str} {sp : Sp} {E : XK} {t : TA} {ta : TE} {e o : Expr} {es : List Expr} {p pos apos : Pos} {CX : CXT} {j k : Nat} {C : Addr}
theorem pe_ce (c : Dn X.prog X.w X.K X.mg X.base CX k x sp) (hr : Room j X.A) (hk : k ≤ j) (hx : Passes CX X E) (hg : Gl X x) (ha : PA X (e :: es) t)
    (hdb : (x == ("__debug__" : Str)) = false := by decide) (he : starEach (e :: es) X.env = (false, eval e X.env) :: starEach es X.env := by rfl) (hpl : (backTo pos (starEach es X.env)).any (·.1) = false := by rfl) :
    PE X (.Call (.Name x p) (e :: es) [] pos) (tCe sp E t) := by
  obtain ⟨f, fd, ps, F, g, kp, b⟩ := c
  refine ⟨fun pins s σ H Q I h => ?_⟩
  have R := (pe_callS (pos := pos) (p := p) (E := fun _ => E) F (hr.mono hk) hg g kp b (fun σ pins H s e s' I c => hx pins σ H s e s' I c) ha hdb he hpl)
  exact R.run pins s σ H Q I h
theorem pe_c0 (c : Dn X.prog X.w X.K X.mg X.base L2.CX0 k x sp) (hr : Room j X.A) (ha : PA X (e :: es) t) (hk : k ≤ j := by omega) (hg : Gl X x := by rfl)
    (hdb : (x == ("__debug__" : Str)) = false := by decide) (he : starEach (e :: es) X.env = (false, eval e X.env) :: starEach es X.env := by rfl) (hpl : (backTo pos (starEach es X.env)).any (·.1) = false := by rfl) :
    PE X (.Call (.Name x p) (e :: es) [] pos) (tCl sp t) := pe_ce c hr hk L2.pass0 hg ha hdb he hpl
theorem pe_cx (c : Dn X.prog X.w X.K X.mg X.base CX k x sp) (hr : Room j X.A) (hx : Passes CX X E) (ha : PA X (e :: es) t) (hk : k ≤ j := by omega) (hg : Gl X x := by rfl)
    (hdb : (x == ("__debug__" : Str)) = false := by decide) (he : starEach (e :: es) X.env = (false, eval e X.env) :: starEach es X.env := by rfl) (hpl : (backTo pos (starEach es X.env)).any (·.1) = false := by rfl) :
    PE X (.Call (.Name x p) (e :: es) [] pos) (tCe sp E t) := pe_ce c hr hk hx hg ha hdb he hpl
end
/-! ### names, statements in short -/
section
variable {X : Cx}
/-- a module's constant -/
theorem pe_k {x : Str} {v : V} {pos : Pos} (h : ∃ u, X.mg x = some u ∧ RelV v u) (hg : Gl X x := by rfl) (hd : (x == ("__debug__" : Str)) = false := by decide) : PE X (.Name x pos) (tC v) := by
  obtain ⟨u, g, r⟩ := h
  exact pe_glob hg g r hd
/-- a built-in class as a value -/
theorem pe_ty {x : Str} {n : String} {pos : Pos} (hm : X.mg x = none) (hv : bootBuiltins x = some (.type n) := by decide +kernel) (hg : Gl X x := by rfl) (hn : x ≠ "__name__" := by decide) (hd : (x == ("__debug__" : Str)) = false := by decide) : PE X (.Name x pos) (tC (.ty n)) :=
  pe_bltn hg hm hv rfl hn hd
theorem sset (i : Nat) {x : Str} {e : Expr} {te : TE} {pos pos' : Pos} (hN : X.N.Nodup) (he : PE X e te) (hi : X.N[i]? = some x := by rfl) (hx : Loc X.env.scope x := by first | exact Or.inl rfl | exact Or.inr rfl)
    (hs : swapsWith e (some (.Name x pos')) pos.line X.env = pure false := by rfl) (hf : X.fn x = true ∨ X.env.scope.names.lookup x = some .local := by first | exact .inl rfl | exact .inr rfl | assumption) :
    PS X (.Assign [.Name x pos'] e pos) (tAsg te (gName i)) := ps_set hN hi hx he hs hf
theorem gnm (i : Nat) {x : Str} {pos : Pos} (hN : X.N.Nodup) (hi : X.N[i]? = some x := by rfl) (hx : Loc X.env.scope x := by first | exact Or.inl rfl | exact Or.inr rfl) (hf : X.fn x = true ∨ X.env.scope.names.lookup x = some .local := by first | exact .inl rfl | exact .inr rfl | assumption) :
    PG X (.Name x pos) (gName i) := pg_name hN hi hx hf
/-- a built-in, called -/
theorem pcb {id : String} {r : List V → Hp → VK → Prop} {t : TA} {x : Str} {p pos : Pos} {e : Expr} {es : List Expr} (hc : CallR X (.builtin id) r) (hm : X.mg x = none) (ha : PA X (e :: es) t) (hv : bootBuiltins x = some (.builtin id) := by decide +kernel) (hg : Gl X x := by rfl)
    (hn : x ≠ "__name__" := by decide) (hdb : (x == ("__debug__" : Str)) = false := by decide) (he : starEach (e :: es) X.env = (false, eval e X.env) :: starEach es X.env := by rfl) (hpl : (backTo pos (starEach es X.env)).any (·.1) = false := by rfl) :
    PE X (.Call (.Name x p) (e :: es) [] pos) (tCB r t) := pe_callB hc hg hm hv ha hn hdb he hpl
theorem pct {T : String} {r : List V → Hp → VK → Prop} {t : TA} {x : Str} {p pos : Pos} {e : Expr} {es : List Expr} (hc : CallR X (.type T) r) (hm : X.mg x = none) (ha : PA X (e :: es) t) (hv : bootBuiltins x = some (.type T) := by decide +kernel) (hg : Gl X x := by rfl)
    (hn : x ≠ "__name__" := by decide) (hdb : (x == ("__debug__" : Str)) = false := by decide) (he : starEach (e :: es) X.env = (false, eval e X.env) :: starEach es X.env := by rfl) (hpl : (backTo pos (starEach es X.env)).any (·.1) = false := by rfl) :
    PE X (.Call (.Name x p) (e :: es) [] pos) (tCB r t) := pe_callTy hc hg hm hv ha hn hdb he hpl
end
end M10
set_option Elab.async false
set_option linter.all false
set_option maxRecDepth 100000
set_option maxHeartbeats 4000000
namespace M10
open PySem PySem.Spec PyProof.Rows L2 Evl
/-! ### heaps -/
/-- all but the list at r is kept -/
def Kp (r : Addr) (H H' : Hp) : Prop := ∀ b o, b ≠ r → H b = some o → H' b = some o
theorem Kp.refl (r : Addr) (H : Hp) : Kp r H H := fun _ _ _ h => h
theorem Kp.trans {r : Addr} {H H1 H2 : Hp} (a : Kp r H H1) (b : Kp r H1 H2) : Kp r H H2 := fun c o n h => b c o n (a c o n h)
theorem Kp.of {r : Addr} {H H' : Hp} (e : Ex H H') : Kp r H H' := fun c o _ h => e c o h
theorem Kp.put {r : Addr} {H : Hp} {o : HO} : Kp r H (upd H r o) := fun b u n h => by
  rw [upd_ne n]
  exact h
theorem Kp.new {r p : Addr} {H H1 : Hp} {o : HO} (e : Kp r H H1) (h : H1 p = none) : Kp r H (upd H1 p o) := e.trans (Kp.of (Ex.new h))
/-- tuples stay -/
def Tx (H H' : Hp) : Prop := ∀ a xs, H a = some (.tup xs) → H' a = some (.tup xs)
theorem Tx.of {H H' : Hp} (e : Ex H H') : Tx H H' := fun a xs h => e a _ h
theorem Tx.refl (H : Hp) : Tx H H := fun _ _ h => h
theorem Tx.trans {H H1 H2 : Hp} (a : Tx H H1) (b : Tx H1 H2) : Tx H H2 := fun c xs h => b c xs (a c xs h)
theorem Kp.tx {r : Addr} {H H' : Hp} {xs : List V} (e : Kp r H H') (h : H r = some (.lst xs)) : Tx H H' := fun a ys ha => e a _ (fun z => by
  rw [z, h] at ha
  cases ha) ha
theorem sl_kp {K : PySem.W.Frag} {r a : Addr} {H H' : Hp} {xs : List V} (e : Kp r H H') (n : a ≠ r) (h : SqL K H a xs) : SqL K H' a xs := by
  rcases h with (h | ⟨o, h⟩) | h
  · exact .inl (.inl (e _ _ n h))
  · exact .inl (.inr ⟨o, e _ _ n h⟩)
  · exact .inr h
theorem st_kp {K : PySem.W.Frag} {r a : Addr} {H H' : Hp} {xs : List V} (e : Kp r H H') (n : a ≠ r) (h : SqT K H a xs) : SqT K H' a xs := by
  rcases h with (h | ⟨o, h⟩) | h
  · exact .inl (.inl (e _ _ n h))
  · exact .inl (.inr ⟨o, e _ _ n h⟩)
  · exact .inr h
theorem sz {n : Nat} (h : n ≤ 1000000) : n ≤ sizeLine := by rw [sizeLine_eq]; omega
theorem sz' {n : Nat} (h : n ≤ 1000000) : n < sizeLine := by rw [sizeLine_eq]; omega
theorem ifT {c : Bool} {A B : Prop} (hc : c = true) (h : A) : if c = true then A else B := by
  rw [if_pos hc]
  exact h
theorem ifF {c : Bool} {A B : Prop} (hc : c = false) (h : B) : if c = true then A else B := by
  rw [hc, if_neg Bool.false_ne_true]
  exact h
theorem if2 {c : Bool} {A B : Prop} (h1 : c = true → A) (h2 : c = false → B) : if c = true then A else B := by
  cases c with
  | true => exact ifT rfl (h1 rfl)
  | false => exact ifF rfl (h2 rfl)
theorem dT {p : Prop} [Decidable p] (h : p) : decide p = true := decide_eq_true h
theorem dF {p : Prop} [Decidable p] (h : ¬ p) : decide p = false := decide_eq_false h
theorem sne {a b : Str} (h : ¬ a = b) : decide (V.str a = V.str b) = false := decide_eq_false fun z => h (V.str.inj z)
/-! ### trees: expressions and tests, early and plain -/
inductive K4 where
  | plus | minus | times | less
  deriving DecidableEq
def K4.s : K4 → Str
  | .plus => "plus"
  | .minus => "minus"
  | .times => "times"
  | .less => "less"
inductive Tr where
  | num (n : Int) | early | late (i : Int) | blw (c : Int) | rst (m r : Int)
  | two (k : K4) (a b : Tr) | ife (t a b : Tr) | call (f mk : Str) (mc : Int) (as : Tr) | pcall (f : Str) (as : Tr)
  | nil | cons (a r : Tr)
abbrev TOP : Int := 1000000000000000000000000000000
def wk (k : K4) (a b : Int) : Int := match k with
  | .plus => min (a + b) TOP
  | .minus => max (a - b) 0
  | _ => min (a * b) TOP
theorem TOP0 : (2 : Int) ≤ TOP := by decide
theorem wk_ok {k : K4} {a b : Int} (ha : 0 ≤ a) (hb : 0 ≤ b) : 0 ≤ wk k a b ∧ wk k a b ≤ max TOP a := by
  have T := TOP0
  cases k
  · show 0 ≤ min (a + b) TOP ∧ min (a + b) TOP ≤ max TOP a
    omega
  · show 0 ≤ max (a - b) 0 ∧ max (a - b) 0 ≤ max TOP a
    omega
  · have h : 0 ≤ a * b := Int.mul_nonneg ha hb
    show 0 ≤ min (a * b) TOP ∧ min (a * b) TOP ≤ max TOP a
    omega
  · have h : 0 ≤ a * b := Int.mul_nonneg ha hb
    show 0 ≤ min (a * b) TOP ∧ min (a * b) TOP ≤ max TOP a
    omega
theorem wk_top {k : K4} {a b : Int} (ha : 0 ≤ a) (hb : 0 ≤ b) (h : a ≤ TOP) : 0 ≤ wk k a b ∧ wk k a b ≤ TOP := by
  have q := wk_ok (k := k) ha hb
  omega
/-- the tree t stands at the values xs (one value; for arguments, one each) -/
def De (H : Hp) : Tr → List V → Prop
  | .num n, xs => ∃ a, xs = [.ref a] ∧ H a = some (.tup [.str "number", .int n])
  | .early, xs => ∃ a, xs = [.ref a] ∧ H a = some (.tup [.str "early"])
  | .late i, xs => ∃ a, xs = [.ref a] ∧ H a = some (.tup [.str "late", .int i])
  | .blw c, xs => ∃ a, xs = [.ref a] ∧ H a = some (.tup [.str "below", .int c])
  | .rst m r, xs => ∃ a, xs = [.ref a] ∧ H a = some (.tup [.str "rest", .int m, .int r])
  | .two k x y, xs => ∃ a u v, xs = [.ref a] ∧ H a = some (.tup [.str k.s, u, v]) ∧ De H x [u] ∧ De H y [v]
  | .ife t x y, xs => ∃ a w u v, xs = [.ref a] ∧ H a = some (.tup [.str "if", w, u, v]) ∧ De H t [w] ∧ De H x [u] ∧ De H y [v]
  | .call f mk mc as, xs => ∃ a m b ys, xs = [.ref a] ∧ H a = some (.tup [.str "call", .str f, .ref m, .ref b]) ∧ H m = some (.tup [.str mk, .int mc]) ∧ H b = some (.tup ys) ∧ De H as ys
  | .pcall f as, xs => ∃ a b ys, xs = [.ref a] ∧ H a = some (.tup [.str "call", .str f, .ref b]) ∧ H b = some (.tup ys) ∧ De H as ys
  | .nil, xs => xs = []
  | .cons a r, xs => ∃ u us, xs = u :: us ∧ De H a [u] ∧ De H r us
theorem De.mono {H H' : Hp} (e : Tx H H') : ∀ {t : Tr} {xs : List V}, De H t xs → De H' t xs
  | .num n, xs, ⟨a, h1, h2⟩ => ⟨a, h1, e _ _ h2⟩
  | .early, xs, ⟨a, h1, h2⟩ => ⟨a, h1, e _ _ h2⟩
  | .late i, xs, ⟨a, h1, h2⟩ => ⟨a, h1, e _ _ h2⟩
  | .blw c, xs, ⟨a, h1, h2⟩ => ⟨a, h1, e _ _ h2⟩
  | .rst m r, xs, ⟨a, h1, h2⟩ => ⟨a, h1, e _ _ h2⟩
  | .two k x y, xs, ⟨a, u, v, h1, h2, h3, h4⟩ => ⟨a, u, v, h1, e _ _ h2, De.mono e h3, De.mono e h4⟩
  | .ife t x y, xs, ⟨a, w, u, v, h1, h2, h3, h4, h5⟩ => ⟨a, w, u, v, h1, e _ _ h2, De.mono e h3, De.mono e h4, De.mono e h5⟩
  | .call f mk mc as, xs, ⟨a, m, b, ys, h1, h2, h3, h4, h5⟩ => ⟨a, m, b, ys, h1, e _ _ h2, e _ _ h3, e _ _ h4, De.mono e h5⟩
  | .pcall f as, xs, ⟨a, b, ys, h1, h2, h3, h4⟩ => ⟨a, b, ys, h1, e _ _ h2, e _ _ h3, De.mono e h4⟩
  | .nil, xs, h => h
  | .cons a r, xs, ⟨u, us, h1, h2, h3⟩ => ⟨u, us, h1, De.mono e h2, De.mono e h3⟩
theorem De.ex {H H' : Hp} {t : Tr} {xs : List V} (h : De H t xs) (e : Ex H H') : De H' t xs := h.mono (Tx.of e)
/-- how many a list of arguments has -/
def Tr.len : Tr → Nat
  | .cons _ r => r.len + 1
  | _ => 0
/-- an expression's or a test's form (no list of arguments) -/
def Tr.isX : Tr → Bool
  | .nil => false
  | .cons _ _ => false
  | _ => true
def Tr.tag : Tr → Str
  | .num _ => "number"
  | .early => "early"
  | .late _ => "late"
  | .blw _ => "below"
  | .rst _ _ => "rest"
  | .two k _ _ => k.s
  | .ife _ _ _ => "if"
  | .call _ _ _ _ => "call"
  | .pcall _ _ => "call"
  | .nil => "nil"
  | .cons _ _ => "cons"
/-- how deep Python calls itself over it -/
def Tr.ht : Tr → Nat
  | .two _ a b => max a.ht b.ht + 1
  | .ife t a b => max t.ht (max a.ht b.ht) + 1
  | .call _ _ _ as => as.ht + 1
  | .pcall _ as => as.ht + 1
  | .cons a r => max a.ht r.ht
  | _ => 1
/-- how many instructions it may make -/
def Tr.wt : Tr → Nat
  | .num _ => 1
  | .early => 1
  | .late _ => 1
  | .two _ a b => 1 + a.wt + b.wt
  | .ife t a b => 2 + t.wt + a.wt + b.wt
  | .call _ _ _ as => 1 + as.wt
  | .pcall _ as => 1 + as.wt
  | .cons a r => a.wt + r.wt
  | _ => 0
/-- no late number, no call -/
def Tr.ear : Tr → Bool
  | .num _ => true
  | .early => true
  | .blw _ => true
  | .rst _ _ => true
  | .two _ a b => a.ear && b.ear
  | .ife t a b => t.ear && (a.ear && b.ear)
  | _ => false
/-- where a call goes -/
def mvd (mk : Str) (mc k : Int) : Int := if mk = "give" then mc else max 0 (k + mc)
/-- what staging leaves -/
def nmk (f : Str) (k : Int) : Str := f ++ "_" ++ toString k
def Tr.left (k : Int) : Tr → Tr
  | .early => .num k
  | .ife (.blw c) a b => if k < c then a.left k else b.left k
  | .ife (.rst m r) a b => if k % m = r then a.left k else b.left k
  | .ife (.two .less x y) a b => .ife (.two .less (x.left k) (y.left k)) (a.left k) (b.left k)
  | .call f mk mc as => .pcall (nmk f (mvd mk mc k)) (as.left k)
  | .two q a b => if (Tr.two q a b).ear = true then (match a.left k, b.left k with
    | .num m, .num n => .num (wk q m n)
    | _, _ => .nil) else .two q (a.left k) (b.left k)
  | .cons a r => .cons (a.left k) (r.left k)
  | t => t
/-- the names of the calls in it, in the order of the text -/
def Tr.cns : Tr → List Str
  | .two _ a b => a.cns ++ b.cns
  | .ife t a b => t.cns ++ (a.cns ++ b.cns)
  | .pcall f as => f :: as.cns
  | .cons a r => a.cns ++ r.cns
  | _ => []
end M10
set_option Elab.async false
set_option linter.all false
set_option maxRecDepth 100000
set_option maxHeartbeats 4000000
namespace M10
open PySem PySem.Spec PyProof.Rows L2 Evl
/-! ### what the top leaves -/
structure Tb (K : PySem.W.Frag) (mg : Str → Option Value) : Prop where
  len : mg "len" = none
  int : mg "int" = none
  isinstance : mg "isinstance" = none
  tuple : mg "tuple" = none
  list : mg "list" = none
  str : mg "str" = none
  range : mg "range" = none
  zip : mg "zip" = none
  enumerate : mg "enumerate" = none
  sorted : mg "sorted" = none
  max : mg "max" = none
  min : mg "min" = none
  all : mg "all" = none
  any : mg "any" = none
  bool : mg "bool" = none
  MOST_NUMBER : ∃ u, mg "MOST_NUMBER" = some u ∧ RelV (.int 1000000) u
  MOST_LATES : ∃ u, mg "MOST_LATES" = some u ∧ RelV (.int 4) u
  MOST_FUEL : ∃ u, mg "MOST_FUEL" = some u ∧ RelV (.int 100000) u
  MOST_VALUE : ∃ u, mg "MOST_VALUE" = some u ∧ RelV (.int TOP) u
  MOST_PLAIN : ∃ u, mg "MOST_PLAIN" = some u ∧ RelV (.int 300) u
  MOST_CODE : ∃ u, mg "MOST_CODE" = some u ∧ RelV (.int 100000) u
/-! ### worked -/
def spWorked : Sp := fun vs H Q _ => ∃ (k : K4) (a b : Int), vs = [.str k.s, .int a, .int b] ∧ 0 ≤ a ∧ a ≤ TOP ∧ 0 ≤ b ∧ b ≤ TOP ∧ Q (.int (wk k a b)) H
theorem mul_ok {a b : Int} (h1 : 0 ≤ a) (h2 : a ≤ TOP) (h3 : 0 ≤ b) (h4 : b ≤ TOP) : CMulW a b := by
  have t : TOP < 2 ^ 100 := by decide
  exact wide_mul (a := 100) (b := 100) (by omega) (by omega) (by decide) (by decide) (by decide)
theorem min2 (i j : Int) : (if j < i then j else i) = min i j := by split <;> omega
theorem max2 (i j : Int) : (if j > i then j else i) = max i j := by split <;> omega
section
variable {P : Program} {w : World} {K : PySem.W.Frag} {mg : Str → Option Value} {base : Heap}
theorem sc_worked : FnScope ["kind", "one", "other"] ["kind", "one", "other"] (defScope s_worked) := ⟨rfl, rfl, rfl, by decide +kernel, rfl, by decide +kernel, by decide +kernel⟩
theorem ok_worked (D : Dd K mg "worked" s_worked ["kind", "one", "other"]) (T : Tb K mg) : Dn P w K mg base L2.CX0 1 "worked" spWorked := by
  refine D.ok sc_worked (fun vs H Q E h => by obtain ⟨k, a, b, rfl, _⟩ := h; rfl) (fun f cdv A outer s H vs Q E hr h => ?_)
  obtain ⟨k, a, b, rfl, a0, a1, b0, b1, q⟩ := h
  refine ⟨_, (pss_cons (ps_if (pt_cmpR op_eq (pv 0) pe_str (nomark _)) (pss_one (ps_ret (pcb (call_min2 rfl) T.min (pa_cons (pe_op op_add (pv 1) (pv 2)) (pa_cons (pe_k T.MOST_VALUE) pa_nil))))) pss_nil)
    (pss_cons (ps_if (pt_cmpR op_eq (pv 0) pe_str (nomark _)) (pss_one (ps_ret (pcb (call_max2 rfl) T.max (pa_cons (pe_op op_sub (pv 1) (pv 2)) (pa_cons pe_int pa_nil))))) pss_nil)
    (pss_one (ps_ret (pcb (call_min2 rfl) T.min (pa_cons (pe_op op_mulW (pv 1) (pv 2)) (pa_cons (pe_k T.MOST_VALUE) pa_nil))))))), ?_⟩
  refine ⟨_, rfl, rfl, _, rfl, ?_⟩
  cases k
  · refine ifT (by decide +kernel) ?_
    refine ⟨_, rfl, _, rfl, _, _, rfl, rfl, _, _, rfl, ?_⟩
    show Q (V.int (if TOP < a + b then TOP else a + b)) H
    rw [min2]
    exact q
  · refine ifF (by decide +kernel) ⟨_, rfl, rfl, _, rfl, ifT (by decide +kernel) ?_⟩
    refine ⟨_, rfl, _, rfl, _, _, rfl, rfl, _, _, rfl, ?_⟩
    show Q (V.int (if 0 > a - b then 0 else a - b)) H
    rw [max2]
    exact q
  all_goals
    refine ifF (by decide +kernel) ⟨_, rfl, rfl, _, rfl, ifF (by decide +kernel) ?_⟩
    refine ⟨_, rfl, _, rfl, _, _, rfl, rfl, mul_ok a0 a1 b0 b1, _, _, rfl, ?_⟩
    show Q (V.int (if TOP < a * b then TOP else a * b)) H
    rw [min2]
    exact q
theorem sc_law_worked : FnScope ["_law_kind", "_law_one", "_law_other", "_law_top"] ["_law_kind", "_law_one", "_law_other"] (defScope s_law_worked) := ⟨rfl, rfl, rfl, by decide +kernel, rfl, by decide +kernel, by decide +kernel⟩
theorem ok_l_worked (D : Dd K mg "_law_worked" s_law_worked ["_law_kind", "_law_one", "_law_other"]) (T : Tb K mg) : Dn P w K mg base L2.CX0 1 "_law_worked" spWorked := by
  refine D.ok sc_law_worked (fun vs H Q E h => by obtain ⟨k, a, b, rfl, _⟩ := h; rfl) (fun f cdv A outer s H vs Q E hr h => ?_)
  obtain ⟨k, a, b, rfl, a0, a1, b0, b1, q⟩ := h
  refine ⟨_, (pss_cons (sset 3 sc_law_worked.nd pe_int)
    (pss_cons (ps_if (pt_cmpR op_eq (pv 0) pe_str (nomark _)) (pss_one (ps_ret (pcb (call_max2 rfl) T.max (pa_cons pe_int (pa_cons (pe_op op_sub (pv 1) (pv 2)) pa_nil))))) pss_nil)
    (pss_one (ps_ret (pcb (call_min2 rfl) T.min (pa_cons (pv 3) (pa_cons (pe_ifExp (pt_cmpR op_eq (pv 0) pe_str (nomark _)) (pe_op op_add (pv 1) (pv 2)) (pe_op op_mulW (pv 1) (pv 2))) pa_nil))))))), ?_⟩
  refine ⟨_, rfl, rfl, _, rfl, ?_⟩
  cases k
  · refine ifF (by decide +kernel) ?_
    refine ⟨_, rfl, _, rfl, rfl, _, rfl, ifT (by decide +kernel) ⟨_, rfl, _, rfl, _, _, rfl, rfl, _, _, rfl, ?_⟩⟩
    show Q (V.int (if a + b < TOP then a + b else TOP)) H
    rw [min2, Int.min_comm]
    exact q
  · refine ifT (by decide +kernel) ?_
    refine ⟨_, rfl, _, rfl, _, _, rfl, rfl, _, _, rfl, ?_⟩
    show Q (V.int (if a - b > 0 then a - b else 0)) H
    rw [max2, Int.max_comm]
    exact q
  all_goals
    refine ifF (by decide +kernel) ?_
    refine ⟨_, rfl, _, rfl, rfl, _, rfl, ifF (by decide +kernel) ⟨_, rfl, _, rfl, _, _, rfl, rfl, mul_ok a0 a1 b0 b1, _, _, rfl, ?_⟩⟩
    show Q (V.int (if a * b < TOP then a * b else TOP)) H
    rw [min2, Int.min_comm]
    exact q
/-! ### where a call goes, whether a test holds -/
def spMoved : Sp := fun vs H Q _ => ∃ (m : Addr) (mk : Str) (mc k : Int), vs = [.ref m, .int k] ∧ H m = some (.tup [.str mk, .int mc]) ∧ Q (.int (mvd mk mc k)) H
theorem sc_law_moved : FnScope ["_law_move_here", "_law_early"] ["_law_move_here", "_law_early"] (defScope s_law_moved) := ⟨rfl, rfl, rfl, by decide +kernel, rfl, by decide +kernel, by decide +kernel⟩
theorem ok_l_moved (D : Dd K mg "_law_moved" s_law_moved ["_law_move_here", "_law_early"]) (T : Tb K mg) : Dn P w K mg base L2.CX0 1 "_law_moved" spMoved := by
  refine D.ok sc_law_moved (fun vs H Q E h => by obtain ⟨m, mk, mc, k, rfl, _⟩ := h; rfl) (fun f cdv A outer s H vs Q E hr h => ?_)
  obtain ⟨m, mk, mc, k, rfl, hm, q⟩ := h
  refine ⟨_, (pss_one (ps_ret (pe_ifExp (pt_cmpR op_eq (pe_ix ix_tup (pv 0) pe_int (fun _ _ => rfl)) pe_str (nomark _)) (pe_ix ix_tup (pv 0) pe_int (fun _ _ => rfl)) (pcb (call_max2 rfl) T.max (pa_cons pe_int (pa_cons (pe_op op_add (pv 1) (pe_ix ix_tup (pv 0) pe_int (fun _ _ => rfl))) pa_nil)))))), ?_⟩
  refine ⟨_, rfl, m, _, _, _, rfl, rfl, SqT.of hm, rfl, rfl, _, rfl, if2 (fun c => ?_) (fun c => ?_)⟩
  · have e : mk = "give" := V.str.inj (of_decide_eq_true c)
    refine ⟨_, rfl, m, _, _, _, rfl, rfl, SqT.of hm, rfl, ?_⟩
    rw [show mvd mk mc k = mc from if_pos e] at q
    exact q
  · have e : ¬ mk = "give" := fun z => of_decide_eq_false c (congrArg V.str z)
    refine ⟨_, rfl, _, rfl, m, _, _, _, rfl, rfl, SqT.of hm, rfl, _, _, rfl, rfl, _, _, rfl, ?_⟩
    show Q (V.int (if k + mc > 0 then k + mc else 0)) H
    rw [max2]
    rw [show mvd mk mc k = max 0 (k + mc) from if_neg e] at q
    exact q
/-- a test of the early number at k -/
def Tr.hld (k : Int) : Tr → Bool
  | .blw c => decide (k < c)
  | .rst m r => decide (k % m = r)
  | _ => false
def spHolds : Sp := fun vs H Q _ => ∃ (t : Tr) (v : V) (k : Int), vs = [v, .int k] ∧ De H t [v] ∧ ((∃ c, t = .blw c) ∨ ∃ m r, t = .rst m r ∧ 2 ≤ m) ∧ Q (.bl (t.hld k)) H
theorem sc_law_holds : FnScope ["_law_test_here", "_law_early"] ["_law_test_here", "_law_early"] (defScope s_law_holds) := ⟨rfl, rfl, rfl, by decide +kernel, rfl, by decide +kernel, by decide +kernel⟩
theorem ok_l_holds (D : Dd K mg "_law_holds" s_law_holds ["_law_test_here", "_law_early"]) (T : Tb K mg) : Dn P w K mg base L2.CX0 1 "_law_holds" spHolds := by
  refine D.ok sc_law_holds (fun vs H Q E h => by obtain ⟨t, v, k, rfl, _⟩ := h; rfl) (fun f cdv A outer s H vs Q E hr h => ?_)
  obtain ⟨t, v, k, rfl, hd, ht, q⟩ := h
  refine ⟨_, (pss_one (ps_ret (pe_ifExp (pt_cmpR op_eq (pe_ix ix_tup (pv 0) pe_int (fun _ _ => rfl)) pe_str (nomark _)) (pe_cmpR op_lt (pv 1) (pe_ix ix_tup (pv 0) pe_int (fun _ _ => rfl)) (nomark _)) (pe_cmpR op_eq (pe_op op_mod (pv 1) (pe_ix ix_tup (pv 0) pe_int (fun _ _ => rfl))) (pe_ix ix_tup (pv 0) pe_int (fun _ _ => rfl)) (nomark _))))), ?_⟩
  rcases ht with ⟨c, rfl⟩ | ⟨m, r, rfl, m2⟩
  · obtain ⟨a, e, ha⟩ := hd
    injection e with e _
    subst e
    refine ⟨_, rfl, a, _, _, _, rfl, rfl, SqT.of ha, rfl, rfl, _, rfl, ifT (by decide +kernel) ?_⟩
    exact ⟨_, rfl, _, rfl, a, _, _, _, rfl, rfl, SqT.of ha, rfl, _, _, rfl, rfl, q⟩
  · obtain ⟨a, e, ha⟩ := hd
    injection e with e _
    subst e
    refine ⟨_, rfl, a, _, _, _, rfl, rfl, SqT.of ha, rfl, rfl, _, rfl, ifF (by decide +kernel) ?_⟩
    refine ⟨_, rfl, _, rfl, a, _, _, _, rfl, rfl, SqT.of ha, rfl, _, _, rfl, rfl, (by show 0 < m; omega), _, rfl, a, _, _, _, rfl, rfl, SqT.of ha, rfl, rfl, ?_⟩
    have e : decide (V.int (k % m) = V.int r) = decide (k % m = r) := by simp
    show Q (V.bl (decide (V.int (k % m) = V.int r))) H
    rw [e]
    exact q
end

end M10
set_option Elab.async false
set_option linter.all false
set_option maxRecDepth 100000
set_option maxHeartbeats 4000000
namespace M10
open PySem PySem.Spec PyProof.Rows L2 Evl
variable {sa : Addr}
/-! ### the row of draws -/
def Nr (K : PySem.W.Frag) (sa r : Addr) (xs : List V) : Prop := sa ≠ r ∨ ∀ H, SqL K H sa xs
theorem sl_kn {K : PySem.W.Frag} {H H' : Hp} {sa r : Addr} {xs : List V} (k : Kp r H H') (n : Nr K sa r xs) (h : SqL K H sa xs) : SqL K H' sa xs := n.elim (fun n => sl_kp k n h) (fun f => f H')
def Row (K : PySem.W.Frag) (sa : Addr) (H : Hp) (r : Addr) : Prop := ∃ (ns : List Int) (i j l : Int),
  H r = some (.lst [.ref sa, .int i, .int j, .int l]) ∧ SqL K H sa (ns.map V.int) ∧ Nr K sa r (ns.map V.int) ∧ 0 ≤ i ∧ 0 ≤ j ∧ j < 2147483647
/-- the row has been drawn from -/
structure Dr (K : PySem.W.Frag) (sa : Addr) (r : Addr) (H H' : Hp) : Prop where
  kp : Kp r H H'
  row : Row K sa H' r
theorem Row.lst {K : PySem.W.Frag} {H : Hp} {r : Addr} (h : Row K sa H r) : ∃ xs, H r = some (.lst xs) := by
  obtain ⟨ns, i, j, l, h, _⟩ := h
  exact ⟨_, h⟩
theorem Row.ex {K : PySem.W.Frag} {H H' : Hp} {r : Addr} (h : Row K sa H r) (e : Ex H H') : Row K sa H' r := by
  obtain ⟨ns, i, j, l, h1, h2, h3⟩ := h
  exact ⟨ns, i, j, l, e _ _ h1, ex_l e h2, h3⟩
theorem Dr.refl {K : PySem.W.Frag} {H : Hp} {r : Addr} (h : Row K sa H r) : Dr K sa r H H := ⟨Kp.refl r H, h⟩
theorem Dr.trans {K : PySem.W.Frag} {H H1 H2 : Hp} {r : Addr} (a : Dr K sa r H H1) (b : Dr K sa r H1 H2) : Dr K sa r H H2 := ⟨a.kp.trans b.kp, b.row⟩
theorem Dr.ex {K : PySem.W.Frag} {H H1 H2 : Hp} {r : Addr} (a : Dr K sa r H H1) (e : Ex H1 H2) : Dr K sa r H H2 := ⟨a.kp.trans (Kp.of e), a.row.ex e⟩
theorem Dr.new {K : PySem.W.Frag} {H H1 : Hp} {r p : Addr} {o : HO} (a : Dr K sa r H H1) (h : H1 p = none) : Dr K sa r H (upd H1 p o) := a.ex (Ex.new h)
theorem Dr.tx {K : PySem.W.Frag} {H H' : Hp} {r : Addr} (d : Dr K sa r H H') (h : Row K sa H r) : Tx H H' := by
  obtain ⟨xs, h⟩ := h.lst
  exact d.kp.tx h
/-- a new row -/
theorem Row.put {K : PySem.W.Frag} {H : Hp} {r : Addr} {ns : List Int} {i j l : Int} (hs : SqL K H sa (ns.map V.int)) (n : Nr K sa r (ns.map V.int)) (h : 0 ≤ i ∧ 0 ≤ j ∧ j < 2147483647) : Row K sa (upd H r (.lst [.ref sa, .int i, .int j, .int l])) r :=
  ⟨ns, i, j, l, upd_same, sl_kn Kp.put n hs, n, h⟩
/-- a list that was made on the way is changed -/
theorem Row.own {K : PySem.W.Frag} {H1 H' : Hp} {r D : Addr} {o : HO} (h1 : Row K sa H1 r) (hD : H1 D = none) (h : Row K sa H' r) : Row K sa (upd H' D o) r := by
  obtain ⟨ns1, i1, j1, l1, a1, a2, _⟩ := h1
  obtain ⟨ns, i, j, l, h1, h2, h3⟩ := h
  have n : r ≠ D := ne_of_none a1 hD
  have g : upd H' D o r = some (.lst [.ref sa, .int i, .int j, .int l]) := by rw [upd_ne n]; exact h1
  rcases a2 with (a2 | ⟨_, a2⟩) | a2
  · exact ⟨ns, i, j, l, g, sl_kp Kp.put (ne_of_none a2 hD) h2, h3⟩
  · exact ⟨ns, i, j, l, g, sl_kp Kp.put (ne_of_none a2 hD) h2, h3⟩
  · exact ⟨ns1, i, j, l, g, .inr a2, .inr fun _ => .inr a2, h3.2⟩
theorem Dr.own {K : PySem.W.Frag} {H H1 H' : Hp} {r D : Addr} {o : HO} (d1 : Dr K sa r H H1) (hD : H1 D = none) (d : Dr K sa r H H') : Dr K sa r H (upd H' D o) :=
  ⟨fun b u n h => by
    rw [upd_ne (ne_of_none (d1.kp b u n h) hD)]
    exact d.kp b u n h, d1.row.own hD d.row⟩
def spTaken (K : PySem.W.Frag) (sa : Addr) : Sp := fun vs H Q _ => ∃ (r : Addr) (m : Int), vs = [.ref r, .int m] ∧ Row K sa H r ∧ 1 ≤ m ∧ m ≤ 1000000 ∧ ∀ H' (n : Int), Dr K sa r H H' → 0 ≤ n → n < m → Q (.int n) H'
theorem cdiv {m : Int} (h : 1 ≤ m) (h2 : m ≤ 1000000) {i : Int} : CDiv i m := ⟨by omega, by omega⟩
theorem at_i {α : Type} {xs : List α} {n : Int} (h0 : 0 ≤ n) (h1 : n < (xs.length : Int)) : ∃ v, xs[n.toNat]? = some v ∧ atI xs n = some v ∧ v ∈ xs := by
  obtain ⟨k, rfl⟩ : ∃ k : Nat, n = (k : Int) := ⟨n.toNat, by omega⟩
  have hk : k < xs.length := by omega
  refine ⟨xs[k], ?_, atI_nat (List.getElem?_eq_getElem hk), List.getElem_mem hk⟩
  rw [Int.toNat_natCast]
  exact List.getElem?_eq_getElem hk
theorem cell_at {ns : List Int} {i : Int} (h0 : 1 ≤ i) (h : i ≤ (ns.length : Int)) : ∃ z : Int, atI (ns.map V.int) (i - 1) = some (.int z) := by
  obtain ⟨v, _, h2, h3⟩ := at_i (xs := ns.map V.int) (n := i - 1) (by omega) (by rw [List.length_map]; omega)
  obtain ⟨z, _, rfl⟩ := List.mem_map.mp h3
  exact ⟨z, h2⟩
theorem z0 : 0 ≤ sizeLine := Nat.zero_le _
theorem z1 : 1 ≤ sizeLine := sz (by decide)
theorem z2 : 2 ≤ sizeLine := sz (by decide)
theorem z3 : 3 ≤ sizeLine := sz (by decide)
theorem z4 : 4 ≤ sizeLine := sz (by decide)
theorem z5 : 5 ≤ sizeLine := sz (by decide)
theorem z6 : 6 ≤ sizeLine := sz (by decide)
theorem z8 : 8 ≤ sizeLine := sz (by decide)
theorem pz {k : Int} (h : 0 < k) : 0 < k := h
section
variable {P : Program} {w : World} {K : PySem.W.Frag} {mg : Str → Option Value} {base : Heap}
theorem sc_law_taken : FnScope ["_law_row", "_law_many", "_law_found", "_law_cell"] ["_law_row", "_law_many"] (defScope s_law_taken) := ⟨rfl, rfl, rfl, by decide +kernel, rfl, by decide +kernel, by decide +kernel⟩
theorem ok_l_taken (D : Dd K mg "_law_taken" s_law_taken ["_law_row", "_law_many"]) (T : Tb K mg) : Dn P w K mg base L2.CX0 1 "_law_taken" (spTaken K sa) := by
  refine D.ok sc_law_taken (fun vs H Q E h => by obtain ⟨r, m, rfl, _⟩ := h; rfl) (fun f cdv A outer s H vs Q E hr h => ?_)
  obtain ⟨r, m, rfl, ⟨ns, i, j, l, h1, hs, hn, i0, j0, j1⟩, m1, m2, q⟩ := h
  refine ⟨_, (pss_cons (ps_if (pt_cmpR op_gt (pe_ix ix_list (pv 0) pe_int (fun _ _ => rfl)) pe_int (nomark _)) (pss_cons (sset 2 sc_law_taken.nd (pe_op op_mod (pct call_int1 T.int (pa_cons (pe_ix ix_list (pv 0) pe_int (fun _ _ => rfl)) pa_nil)) (pv 1)))
    (pss_cons (ps_asg (pe_op op_fdiv (pe_ix ix_list (pv 0) pe_int (fun _ _ => rfl)) (pv 1)) (pg_sub (pv 0) pe_int set_list))
    (pss_one (ps_ret (pv 2))))) pss_nil)
    (pss_cons (ps_asg (pe_op op_add (pe_ix ix_list (pv 0) pe_int (fun _ _ => rfl)) pe_int) (pg_sub (pv 0) pe_int set_list))
    (pss_cons (ps_if (pt_cmpR op_gt (pe_ix ix_list (pv 0) pe_int (fun _ _ => rfl)) (pcb call_len_seq T.len (pa_cons (pe_ix ix_list (pv 0) pe_int (fun _ _ => rfl)) pa_nil)) (nomark _)) (pss_cons (ps_asg (pe_op op_mod (pct call_int1 T.int (pa_cons (pe_op op_add (pe_op op_mul (pe_ix ix_list (pv 0) pe_int (fun _ _ => rfl)) pe_int) pe_int) pa_nil)) pe_int) (pg_sub (pv 0) pe_int set_list))
    (pss_one (ps_ret (pe_op op_mod (pct call_int1 T.int (pa_cons (pe_op op_fdiv (pe_ix ix_list (pv 0) pe_int (fun _ _ => rfl)) pe_int) pa_nil)) (pv 1))))) pss_nil)
    (pss_cons (sset 3 sc_law_taken.nd (pe_ix ix_list (pe_ix ix_list (pv 0) pe_int (fun _ _ => rfl)) (pe_op op_sub (pe_ix ix_list (pv 0) pe_int (fun _ _ => rfl)) pe_int) (fun _ _ => rfl)))
    (pss_cons (ps_asg (pe_op op_mod (pct call_int1 T.int (pa_cons (pe_op op_add (pe_op op_add (pe_op op_mul (pe_ix ix_list (pv 0) pe_int (fun _ _ => rfl)) pe_int) (pv 3)) pe_int) pa_nil)) pe_int) (pg_sub (pv 0) pe_int set_list))
    (pss_cons (ps_if (pt_cmpR op_ge (pv 3) (pe_op op_pow pe_int pe_int) (nomark _)) (pss_one (ps_asg (pe_op op_fdiv (pv 3) (pv 1)) (pg_sub (pv 0) pe_int set_list))) pss_nil)
    (pss_one (ps_ret (pe_op op_mod (pct call_int1 T.int (pa_cons (pv 3) pa_nil)) (pv 1)))))))))), ?_⟩
  have m0 : (0 : Int) < m := by omega
  refine ⟨_, rfl, r, _, _, _, rfl, rfl, SqL.of h1, rfl, _, _, rfl, rfl, _, rfl, if2 (fun c => ?_) (fun c => ?_)⟩
  · -- the rest of a great cell
    refine ⟨_, rfl, r, _, _, _, rfl, rfl, SqL.of h1, rfl, .inl ⟨_, rfl, _, rfl, _, _, rfl, rfl, m0, ?_⟩⟩
    refine ⟨_, rfl, r, _, _, _, rfl, rfl, SqL.of h1, rfl, _, rfl, _, _, rfl, rfl, cdiv m1 m2, _, rfl, r, _, _, _, rfl, rfl, h1, rfl, ?_⟩
    exact ⟨_, rfl, q _ _ ⟨Kp.put, Row.put hs hn ⟨i0, j0, j1⟩⟩ (Int.emod_nonneg _ (by omega)) (Int.emod_lt_of_pos _ m0)⟩
  · refine ⟨_, rfl, r, _, _, _, rfl, rfl, SqL.of h1, rfl, _, _, rfl, rfl, _, rfl, r, _, _, _, rfl, rfl, h1, rfl, ?_⟩
    -- row[1] is one more
    have hs' : SqL K (upd H r (.lst [.ref sa, .int (i + 1), .int j, .int l])) sa (ns.map V.int) := sl_kn Kp.put hn hs
    have g1 : (upd H r (.lst [.ref sa, .int (i + 1), .int j, .int l])) r = some (.lst [.ref sa, .int (i + 1), .int j, .int l]) := upd_same
    refine ⟨_, rfl, r, _, _, _, rfl, rfl, SqL.of g1, rfl, _, rfl, r, _, _, _, rfl, rfl, SqL.of g1, rfl, sa, _, rfl, .inl hs', _, _, rfl, rfl, _, rfl, if2 (fun c => ?_) (fun c => ?_)⟩
    · refine ⟨_, rfl, r, _, _, _, rfl, rfl, SqL.of g1, rfl, _, _, rfl, rfl, .inl ⟨by omega, by omega⟩, _, _, rfl, rfl, .inl ⟨_, rfl, _, _, rfl, rfl, (by show (0 : Int) < 2147483647; decide), _, rfl, r, _, _, _, rfl, rfl, g1, rfl, ?_⟩⟩
      refine ⟨_, rfl, r, _, _, _, rfl, rfl, SqL.of upd_same, rfl, _, _, rfl, rfl, ⟨by decide, by decide⟩, .inl ⟨_, rfl, _, rfl, _, _, rfl, rfl, m0, ?_⟩⟩
      refine q _ _ ⟨Kp.put.trans Kp.put, ?_⟩ (Int.emod_nonneg _ (by omega)) (Int.emod_lt_of_pos _ m0)
      exact Row.put hs' hn ⟨by omega, Int.emod_nonneg _ (by decide), Int.emod_lt_of_pos _ (by decide)⟩
    · have c' : ¬ ((ns.map V.int).length : Int) < i + 1 := of_decide_eq_false c
      rw [List.length_map] at c'
      obtain ⟨z, hz⟩ := cell_at (ns := ns) (i := i + 1) (by omega) (by omega)
      refine ⟨_, rfl, r, _, _, _, rfl, rfl, SqL.of g1, rfl, _, rfl, r, _, _, _, rfl, rfl, SqL.of g1, rfl, _, _, rfl, rfl, sa, _, _, _, rfl, rfl, hs', hz, ?_⟩
      refine ⟨_, rfl, r, _, _, _, rfl, rfl, SqL.of g1, rfl, _, _, rfl, rfl, .inl ⟨by omega, by omega⟩, _, rfl, _, _, rfl, rfl, _, _, rfl, rfl, .inl ⟨_, rfl, _, _, rfl, rfl, (by show (0 : Int) < 2147483647; decide), _, rfl, r, _, _, _, rfl, rfl, g1, rfl, ?_⟩⟩
      have jn : 0 ≤ (j * 48271 + z + 11) % 2147483647 ∧ (j * 48271 + z + 11) % 2147483647 < 2147483647 := ⟨Int.emod_nonneg _ (by decide), Int.emod_lt_of_pos _ (by decide)⟩
      have hs2 := sl_kn (H' := upd (upd H r (.lst [.ref sa, .int (i + 1), .int j, .int l])) r (.lst [.ref sa, .int (i + 1), .int ((j * 48271 + z + 11) % 2147483647), .int l])) Kp.put hn hs'
      refine ⟨_, rfl, _, _, rfl, rfl, ⟨by decide, by decide, by decide⟩, _, _, rfl, rfl, _, rfl, if2 (fun c => ?_) (fun c => ?_)⟩
      · refine ⟨_, rfl, _, rfl, _, _, rfl, rfl, cdiv m1 m2, _, rfl, r, _, _, _, rfl, rfl, upd_same, rfl, ?_⟩
        refine ⟨_, rfl, .inl ⟨_, rfl, _, rfl, _, _, rfl, rfl, m0, ?_⟩⟩
        exact q _ _ ⟨(Kp.put.trans Kp.put).trans Kp.put, Row.put hs2 hn ⟨by omega, jn⟩⟩ (Int.emod_nonneg _ (by omega)) (Int.emod_lt_of_pos _ m0)
      · refine ⟨_, rfl, .inl ⟨_, rfl, _, rfl, _, _, rfl, rfl, m0, ?_⟩⟩
        exact q _ _ ⟨Kp.put.trans Kp.put, Row.put hs' hn ⟨by omega, jn⟩⟩ (Int.emod_nonneg _ (by omega)) (Int.emod_lt_of_pos _ m0)
/-! ### one of some things -/
def spPick (K : PySem.W.Frag) (sa : Addr) : Sp := fun vs H Q _ => ∃ (r b : Addr) (xs : List V), vs = [.ref r, .ref b] ∧ Row K sa H r ∧ (SqL K H b xs ∨ SqT K H b xs) ∧ b ≠ r ∧ xs ≠ [] ∧ xs.length ≤ 1000000 ∧ ∀ H' v, Dr K sa r H H' → v ∈ xs → Q v H'
theorem sc_law_pick : FnScope ["_law_row", "_law_things"] ["_law_row", "_law_things"] (defScope s_law_pick) := ⟨rfl, rfl, rfl, by decide +kernel, rfl, by decide +kernel, by decide +kernel⟩
theorem ok_l_pick (D : Dd K mg "_law_pick" s_law_pick ["_law_row", "_law_things"]) (T : Tb K mg) (c_l_taken : Dn P w K mg base L2.CX0 1 "_law_taken" (spTaken K sa)) : Dn P w K mg base L2.CX0 2 "_law_pick" (spPick K sa) := by
  refine D.ok sc_law_pick (fun vs H Q E h => by obtain ⟨r, b, xs, rfl, _⟩ := h; rfl) (fun f cdv A outer s H vs Q E hr h => ?_)
  obtain ⟨r, b, xs, rfl, hR, hb, hn, h0, hl, q⟩ := h
  refine ⟨_, (pss_one (ps_ret (pe_ix ix_seq (pv 1) (pe_c0 c_l_taken hr (pa_cons (pv 0) (pa_cons (pcb call_len_seq T.len (pa_cons (pv 1) pa_nil)) pa_nil))) (fun _ _ => rfl)))), ?_⟩
  have l0 : 0 < xs.length := List.length_pos_iff.mpr h0
  refine ⟨_, rfl, _, rfl, _, rfl, b, _, rfl, hb, r, _, rfl, hR, by omega, by omega, fun H1 n d n0 n1 => ?_⟩
  obtain ⟨v, _, ha, hv⟩ := at_i n0 n1
  rcases hb with hb | hb
  · exact .inl ⟨b, _, _, _, rfl, rfl, sl_kp d.kp hn hb, ha, q _ _ d hv⟩
  · exact .inr (.inl ⟨b, _, _, _, rfl, rfl, st_kp d.kp hn hb, ha, q _ _ d hv⟩)
def nm8 : List Str := ["f", "g", "h", "pow", "go", "turn", "zig", "low"]
def spName (K : PySem.W.Frag) (sa : Addr) : Sp := fun vs H Q _ => ∃ r : Addr, vs = [.ref r] ∧ Row K sa H r ∧ ∀ H' x, Dr K sa r H H' → x ∈ nm8 → Q (.str x) H'
theorem row_ne {K : PySem.W.Frag} {H : Hp} {r p : Addr} (h : Row K sa H r) (hp : H p = none) : p ≠ r := fun z => by
  obtain ⟨xs, h⟩ := h.lst
  rw [z, h] at hp
  cases hp
theorem sc_law_name : FnScope ["_law_row"] ["_law_row"] (defScope s_law_name) := ⟨rfl, rfl, rfl, by decide +kernel, rfl, by decide +kernel, by decide +kernel⟩
theorem ok_l_name (D : Dd K mg "_law_name" s_law_name ["_law_row"]) (T : Tb K mg) (c_l_pick : Dn P w K mg base L2.CX0 2 "_law_pick" (spPick K sa)) : Dn P w K mg base L2.CX0 3 "_law_name" (spName K sa) := by
  refine D.ok sc_law_name (fun vs H Q E h => by obtain ⟨r, rfl, _⟩ := h; rfl) (fun f cdv A outer s H vs Q E hr h => ?_)
  obtain ⟨r, rfl, hR, q⟩ := h
  refine ⟨_, (pss_one (ps_ret (pe_c0 c_l_pick hr (pa_cons (pv 0) (pa_cons (pe_lst (pa_cons pe_str (pa_cons pe_str (pa_cons pe_str (pa_cons pe_str (pa_cons pe_str (pa_cons pe_str (pa_cons pe_str (pa_cons pe_str pa_nil))))))))) pa_nil))))), ?_⟩
  refine ⟨_, rfl, sz (by decide), fun p hp => ?_⟩
  refine ⟨r, p, _, rfl, hR.ex (Ex.new hp), .inl (SqL.of upd_same), row_ne hR hp, by simp, by decide, fun H1 v d hv => ?_⟩
  have hv' : v ∈ nm8.map V.str := hv
  obtain ⟨x, hx, rfl⟩ := List.mem_map.mp hv'
  exact q _ _ ((Dr.refl hR).new hp |>.trans d) hx
/-- a move -/
def MvOk (mk : Str) (mc : Int) : Prop := (mk = "give" ∧ 0 ≤ mc ∧ mc ≤ 5) ∨ (mk = "move" ∧ -5 ≤ mc ∧ mc ≤ 5)
def spMove (K : PySem.W.Frag) (sa : Addr) : Sp := fun vs H Q _ => ∃ (r : Addr) (b : Bool), vs = [.ref r, .bl b] ∧ Row K sa H r ∧ ∀ H' p mk mc, Dr K sa r H H' → H' p = some (.tup [.str mk, .int mc]) → MvOk mk mc → Q (.ref p) H'
theorem sc_law_move : FnScope ["_law_row", "_law_is_hot"] ["_law_row", "_law_is_hot"] (defScope s_law_move) := ⟨rfl, rfl, rfl, by decide +kernel, rfl, by decide +kernel, by decide +kernel⟩
theorem ok_l_move (D : Dd K mg "_law_move" s_law_move ["_law_row", "_law_is_hot"]) (T : Tb K mg) (c_l_taken : Dn P w K mg base L2.CX0 1 "_law_taken" (spTaken K sa)) (c_l_pick : Dn P w K mg base L2.CX0 2 "_law_pick" (spPick K sa)) : Dn P w K mg base L2.CX0 3 "_law_move" (spMove K sa) := by
  refine D.ok sc_law_move (fun vs H Q E h => by obtain ⟨r, b, rfl, _⟩ := h; rfl) (fun f cdv A outer s H vs Q E hr h => ?_)
  obtain ⟨r, b, rfl, hR, q⟩ := h
  refine ⟨_, (pss_cons (ps_if (pt_cmpR op_eq (pe_c0 c_l_taken hr (pa_cons (pv 0) (pa_cons pe_int pa_nil))) pe_int (nomark _)) (pss_one (ps_ret (pe_tup (pa_cons pe_str (pa_cons (pe_c0 c_l_taken hr (pa_cons (pv 0) (pa_cons pe_int pa_nil))) pa_nil))))) pss_nil)
    (pss_cons (ps_if (PW.pt (pw_or (pt_val (pv 1)) (pw_or1 (pt_cmpR op_eq (pe_c0 c_l_taken hr (pa_cons (pv 0) (pa_cons pe_int pa_nil))) pe_int (nomark _))))) (pss_one (ps_ret (pe_tup (pa_cons pe_str (pa_cons (pe_c0 c_l_pick hr (pa_cons (pv 0) (pa_cons (pe_lst (pa_cons pe_int (pa_cons pe_int (pa_cons pe_int (pa_cons pe_int (pa_cons (pe_un un_neg pe_int) (pa_cons (pe_un un_neg pe_int) pa_nil))))))) pa_nil))) pa_nil))))) pss_nil)
    (pss_one (ps_ret (pe_tup (pa_cons pe_str (pa_cons (pe_c0 c_l_pick hr (pa_cons (pv 0) (pa_cons (pe_lst (pa_cons (pe_un un_neg pe_int) (pa_cons (pe_un un_neg pe_int) (pa_cons (pe_un un_neg pe_int) (pa_cons (pe_un un_neg pe_int) (pa_cons pe_int pa_nil)))))) pa_nil))) pa_nil))))))), ?_⟩
  have fin : ∀ (H2 : Hp) (xs : List Int), Dr K sa r H H2 → (∀ x ∈ xs, -5 ≤ x ∧ x ≤ 5) → xs ≠ [] → xs.length ≤ 1000 → ∀ p, H2 p = none → spPick K sa [.ref r, .ref p] (upd H2 p (.lst (xs.map V.int)))
        (fun v H3 => (2 ≤ sizeLine) ∧ ∀ p', H3 p' = none → Q (.ref p') (upd H3 p' (.tup [.str "move", v]))) L2.E0 := fun H2 xs d hx h0 hl p hp => by
      refine ⟨r, p, _, rfl, d.row.ex (Ex.new hp), .inl (SqL.of upd_same), row_ne d.row hp, by simpa using h0, by rw [List.length_map]; omega, fun H3 v d3 hv => ⟨z2, fun p' hp' => ?_⟩⟩
      obtain ⟨x, hx', rfl⟩ := List.mem_map.mp hv
      have hb := hx x hx'
      exact q _ p' _ _ (((d.new hp).trans d3).new hp') upd_same (.inr ⟨rfl, hb.1, hb.2⟩)
  have one : ∀ H2, Dr K sa r H H2 → ∀ p, H2 p = none → _ := fun H2 d => fin H2 [0, 1, 2, 5, -1, -3] d (by decide) (by simp) (by decide)
  have two : ∀ H2, Dr K sa r H H2 → ∀ p, H2 p = none → _ := fun H2 d => fin H2 [-1, -1, -2, -3, 0] d (by decide) (by simp) (by decide)
  refine ⟨_, rfl, r, _, rfl, hR, by decide, by decide, fun H1 n d1 n0 n1 => ⟨rfl, _, rfl, if2 (fun c => ?_) (fun c => ?_)⟩⟩
  · refine ⟨_, rfl, r, _, rfl, d1.row, by decide, by decide, fun H2 m d2 m0 m1 => ⟨z2, fun p hp => ?_⟩⟩
    exact q _ p _ _ ((d1.trans d2).new hp) upd_same (.inl ⟨rfl, by omega, by omega⟩)
  · refine ⟨_, rfl, b, rfl, if2 (fun c => ifT rfl ?_) (fun c => ?_)⟩
    · exact ⟨_, rfl, _, rfl, _, rfl, z6, one _ d1⟩
    · refine ⟨_, rfl, r, _, rfl, d1.row, by decide, by decide, fun H2 m d2 m0 m1 => ⟨rfl, _, rfl, if2 (fun c => ?_) (fun c => ?_)⟩⟩
      · exact ⟨_, rfl, _, rfl, _, rfl, z6, one _ (d1.trans d2)⟩
      · exact ⟨_, rfl, _, rfl, _, rfl, _, rfl, _, rfl, z5, two _ (d1.trans d2)⟩
end

end M10
set_option Elab.async false
set_option linter.all false
set_option maxRecDepth 100000
set_option maxHeartbeats 4000000
namespace M10
open PySem PySem.Spec PyProof.Rows L2 Evl
/-! ### xs == [] -/
def rEqN (K : PySem.W.Frag) : R2 := fun x y H Q => ∃ (a b : Addr) (xs : List V), x = .ref a ∧ y = .ref b ∧ SqL K H a xs ∧ SqL K H b [] ∧ Q (.bl xs.isEmpty) H
theorem op_eqN {X : Cx} (hu : X.A.units < cLine) : OpR X (compareOp .Eq) (rEqN X.K) := by
  intro pins s σ H x y v u Q I rx ry h
  obtain ⟨a, b, xs, rfl, rfl, ha, hb, q⟩ := h
  obtain rfl : v = Value.ref a := rx
  obtain rfl : u = Value.ref b := ry
  obtain ⟨its, rv, hl, _⟩ := I.list ha
  obtain ⟨its2, rv2, hl2, _⟩ := I.list hb
  cases rv2
  cases rv with
  | nil => exact SeqAt.eq_listAt (e := fun _ => true) hl.isList hl2.isList rfl hu (fun j h1 => absurd h1 (by simp)) ⟨.bl _, H, I, rfl, q⟩
  | cons r t => exact SeqAt.eq_list_lengthsAt hl.isList hl2.isList (by simp) hu ⟨.bl _, H, I, rfl, q⟩
/-! ### no late number, no call -/
def Tr.okE : Tr → Bool
  | .two _ a b => a.okE && b.okE
  | .ife t a b => t.okE && (a.okE && b.okE)
  | .nil => false
  | .cons _ _ => false
  | _ => true
def spEar (n : Nat) : Sp := fun vs H Q _ => ∃ (t : Tr) (v : V), vs = [v] ∧ De H t [v] ∧ t.okE = true ∧ t.ht ≤ n ∧ ∀ H', Ex H H' → Q (.bl t.ear) H'
theorem K4.two_ne (k : K4) : ¬ k.s = "number" ∧ ¬ k.s = "early" ∧ ¬ k.s = "late" ∧ ¬ k.s = "below" ∧ ¬ k.s = "rest" ∧ ¬ k.s = "if" ∧ ¬ k.s = "call" := by
  cases k <;> exact ⟨by decide +kernel, by decide +kernel, by decide +kernel, by decide +kernel, by decide +kernel, by decide +kernel, by decide +kernel⟩
theorem cut1 (x : V) (xs : List V) : cutV (x :: xs) (some 1) none = xs := by
  unfold cutV
  have e1 : HT.sIx (x :: xs).length 0 (some 1) = 1 := by
    have := HT.sIx_nat (x :: xs).length 0 1
    rw [show ((1 : Nat) : Int) = 1 from rfl] at this
    rw [this, List.length_cons]
    omega
  rw [e1, HT.sIx_none, List.length_cons, List.drop_succ_cons, List.drop_zero]
  exact List.take_of_length_le (by omega)
theorem cut1_ne {x : V} {xs : List V} {P : Prop} (h : HT.sIx (x :: xs).length 0 (some 1) = 0 ∧ P) : False := by
  have := HT.sIx_nat (x :: xs).length 0 1
  rw [show ((1 : Nat) : Int) = 1 from rfl] at this
  rw [this, List.length_cons] at h
  omega
theorem inV_str (a : Str) : ∀ l : List Str, inV (.str a) (l.map V.str) = decide (a ∈ l)
  | [] => by simp [inV]
  | b :: l => by
    have ih := inV_str a l
    unfold inV at ih ⊢
    rw [List.map_cons, List.any_cons, ih]
    have e : eqV (.str b) (.str a) = decide (b = a) := rfl
    rw [e]
    by_cases h : b = a
    · subst h
      simp
    · have h' : ¬ a = b := fun z => h z.symm
      simp [h, h']
abbrev LC : List Str := ["late", "call"]
abbrev L4 : List Str := ["number", "early", "below", "rest"]
theorem lc_number : ("number" : Str) ∉ LC := by decide +kernel
theorem l4_number : ("number" : Str) ∈ L4 := by decide +kernel
theorem lc_early : ("early" : Str) ∉ LC := by decide +kernel
theorem l4_early : ("early" : Str) ∈ L4 := by decide +kernel
theorem lc_late : ("late" : Str) ∈ LC := by decide +kernel
theorem lc_below : ("below" : Str) ∉ LC := by decide +kernel
theorem l4_below : ("below" : Str) ∈ L4 := by decide +kernel
theorem lc_rest : ("rest" : Str) ∉ LC := by decide +kernel
theorem l4_rest : ("rest" : Str) ∈ L4 := by decide +kernel
theorem lc_iff : ("if" : Str) ∉ LC := by decide +kernel
theorem l4_iff : ("if" : Str) ∉ L4 := by decide +kernel
theorem lc_call : ("call" : Str) ∈ LC := by decide +kernel
theorem lc_plus : ("plus" : Str) ∉ LC := by decide +kernel
theorem l4_plus : ("plus" : Str) ∉ L4 := by decide +kernel
theorem lc_minus : ("minus" : Str) ∉ LC := by decide +kernel
theorem l4_minus : ("minus" : Str) ∉ L4 := by decide +kernel
theorem lc_times : ("times" : Str) ∉ LC := by decide +kernel
theorem l4_times : ("times" : Str) ∉ L4 := by decide +kernel
theorem lc_less : ("less" : Str) ∉ LC := by decide +kernel
theorem l4_less : ("less" : Str) ∉ L4 := by decide +kernel
theorem lc_k (k : K4) : k.s ∉ LC := by
  cases k
  · exact lc_plus
  · exact lc_minus
  · exact lc_times
  · exact lc_less
theorem l4_k (k : K4) : k.s ∉ L4 := by
  cases k
  · exact l4_plus
  · exact l4_minus
  · exact l4_times
  · exact l4_less
theorem at0 (x : V) (xs : List V) : atI (x :: xs) 0 = some x := atI_nat (j := 0) rfl
/-- what a node of an expression or a test is to «_law_is_early» and to «_law_parts» -/
theorem De.view {H : Hp} : ∀ {t : Tr} {v : V}, De H t [v] → t.okE = true → ∃ (a : Addr) (xs : List V), v = .ref a ∧ H a = some (.tup (.str t.tag :: xs)) ∧ xs.length ≤ 3 ∧
    ((t.tag ∈ LC ∧ t.ear = false) ∨ (t.tag ∉ LC ∧ t.tag ∈ L4 ∧ t.ear = true) ∨
      (t.tag ∉ LC ∧ t.tag ∉ L4 ∧ ∃ cs : List Tr, cs.length = xs.length ∧
        (∀ (i : Nat) c x, cs[i]? = some c → xs[i]? = some x → De H c [x] ∧ c.okE = true ∧ c.ht + 1 ≤ t.ht) ∧ t.ear = cs.all Tr.ear))
  | .num n, v, ⟨a, h1, h2⟩, _ => ⟨a, _, by injection h1, h2, (by show 1 ≤ 3; decide), .inr (.inl ⟨lc_number, l4_number, rfl⟩)⟩
  | .early, v, ⟨a, h1, h2⟩, _ => ⟨a, _, by injection h1, h2, (by show 0 ≤ 3; decide), .inr (.inl ⟨lc_early, l4_early, rfl⟩)⟩
  | .late i, v, ⟨a, h1, h2⟩, _ => ⟨a, _, by injection h1, h2, (by show 1 ≤ 3; decide), .inl ⟨lc_late, rfl⟩⟩
  | .blw c, v, ⟨a, h1, h2⟩, _ => ⟨a, _, by injection h1, h2, (by show 1 ≤ 3; decide), .inr (.inl ⟨lc_below, l4_below, rfl⟩)⟩
  | .rst m r, v, ⟨a, h1, h2⟩, _ => ⟨a, _, by injection h1, h2, (by show 2 ≤ 3; decide), .inr (.inl ⟨lc_rest, l4_rest, rfl⟩)⟩
  | .two k x y, v, ⟨a, u, w, h1, h2, h3, h4⟩, ho => by
    obtain ⟨o1, o2⟩ := Bool.and_eq_true_iff.mp (show (x.okE && y.okE) = true from ho)
    refine ⟨a, [u, w], by injection h1, h2, (by show 2 ≤ 3; decide), .inr (.inr ⟨lc_k k, l4_k k, [x, y], rfl, fun i c z e1 e2 => ?_, by simp [Tr.ear]⟩)⟩
    have hh : (Tr.two k x y).ht = max x.ht y.ht + 1 := rfl
    rcases i with _ | _ | i
    · cases e1; cases e2; exact ⟨h3, o1, by omega⟩
    · cases e1; cases e2; exact ⟨h4, o2, by omega⟩
    · simp at e1
  | .ife t x y, v, ⟨a, w, u, z, h1, h2, h3, h4, h5⟩, ho => by
    obtain ⟨o0, o⟩ := Bool.and_eq_true_iff.mp (show (t.okE && (x.okE && y.okE)) = true from ho)
    obtain ⟨o1, o2⟩ := Bool.and_eq_true_iff.mp o
    refine ⟨a, [w, u, z], by injection h1, h2, (by show 3 ≤ 3; decide), .inr (.inr ⟨lc_iff, l4_iff, [t, x, y], rfl, fun i c z e1 e2 => ?_, by simp [Tr.ear]⟩)⟩
    have hh : (Tr.ife t x y).ht = max t.ht (max x.ht y.ht) + 1 := rfl
    rcases i with _ | _ | _ | i
    · cases e1; cases e2; exact ⟨h3, o0, by omega⟩
    · cases e1; cases e2; exact ⟨h4, o1, by omega⟩
    · cases e1; cases e2; exact ⟨h5, o2, by omega⟩
    · simp at e1
  | .call f mk mc as, v, ⟨a, m, b, ys, h1, h2, _⟩, _ => ⟨a, _, by injection h1, h2, (by show 3 ≤ 3; decide), .inl ⟨lc_call, rfl⟩⟩
  | .pcall f as, v, ⟨a, b, ys, h1, h2, _⟩, _ => ⟨a, _, by injection h1, h2, (by show 2 ≤ 3; decide), .inl ⟨lc_call, rfl⟩⟩
theorem all_take {α : Type} (f : α → Bool) : ∀ (l : List α) (i : Nat) (c : α), l[i]? = some c → (l.take (i + 1)).all f = ((l.take i).all f && f c)
  | [], i, c, h => by simp at h
  | a :: l, 0, c, h => by
    cases h
    simp
  | a :: l, i + 1, c, h => by
    have ih := all_take f l i c (by simpa using h)
    rw [List.take_succ_cons, List.take_succ_cons, List.all_cons, List.all_cons, ih, Bool.and_assoc]
/-- behind the making of a list at D -/
theorem Kp.ex {D : Addr} {H H' : Hp} (e : Kp D H H') (h : H D = none) : Ex H H' := fun b o hb => e b o (fun z => by
  rw [z, h] at hb
  cases hb) hb
theorem nw {H H1 : Hp} {p : Addr} {o : HO} (hp : H p = none) (h : upd H p o = H1) : Ex H H1 ∧ H1 p = some o := by
  subst h
  exact ⟨Ex.new hp, upd_same⟩
theorem Kp.at_ {r b : Addr} {H H' : Hp} {o : HO} (e : Kp r H H') (n : b ≠ r) (h : H b = some o) : H' b = some o := e b o n h
section
variable {P : Program} {w : World} {K : PySem.W.Frag} {mg : Str → Option Value} {base : Heap}
theorem sc_law_is_early : FnScope ["_law_one", "_law_part"] ["_law_one"] (defScope s_law_is_early) := ⟨rfl, rfl, rfl, by decide +kernel, rfl, by decide +kernel, by decide +kernel⟩
theorem ok_l_is_early (D : Dd K mg "_law_is_early" s_law_is_early ["_law_one"]) (T : Tb K mg) {n : Nat} (c_l_is_early : Dn P w K mg base L2.CX0 n "_law_is_early" (spEar n)) : Dn P w K mg base L2.CX0 (n + 1) "_law_is_early" (spEar (n + 1)) := by
  refine D.ok sc_law_is_early (fun vs H Q E h => by obtain ⟨t, v, rfl, _⟩ := h; rfl) (fun f cdv A outer s H vs Q E hr h => ?_)
  obtain ⟨t, v, rfl, hd, ho, hh, q⟩ := h
  refine ⟨_, (pss_cons (ps_if (pt_cmpR op_in_seq (pe_ix ix_tup (pv 0) pe_int (fun _ _ => rfl)) (pe_lst (pa_cons pe_str (pa_cons pe_str pa_nil))) rfl) (pss_one (ps_ret pe_bl)) pss_nil)
    (pss_cons (ps_if (pt_cmpR op_in_seq (pe_ix ix_tup (pv 0) pe_int (fun _ _ => rfl)) (pe_lst (pa_cons pe_str (pa_cons pe_str (pa_cons pe_str (pa_cons pe_str pa_nil))))) rfl) (pss_one (ps_ret pe_bl)) pss_nil)
    (pss_one (ps_ret (pe_cmpR (op_eqN hr.units0) (pe_lc (own := [("_law_part", 1)]) (g := (gName 1)) rfl sc_law_is_early.nd (pi_tup (pe_slice sl_tupA (pv 0) (po_some pe_int) po_none)) (blkOk_by (N := ["_law_one", "_law_part"]) (sc := defScope s_law_is_early) (by decide +kernel)) (fun _ _ _ _ _ => (gnm 1 sc_law_is_early.nd)) (fun _ _ _ _ _ => pts_one (pt_not (pt_val (pe_c0 c_l_is_early hr (pa_cons (pv 1) pa_nil))))) (fun _ _ _ _ _ => (pv 1))) (pe_lst pa_nil) (nomark _)))))), ?_⟩
  obtain ⟨a, xs, rfl, ha, hx3, hv⟩ := hd.view ho
  refine ⟨_, rfl, a, _, _, V.str t.tag, rfl, rfl, SqT.of ha, at0 _ _, z2, ?_⟩
  intro p1 hp_p1
  generalize hG_p1 : upd _ p1 _ = H1
  obtain ⟨x1, g1⟩ := nw hp_p1 hG_p1
  refine ⟨p1, _, rfl, .inl (SqL.of g1), rfl, by simp [flatV], _, rfl, ?_⟩
  have i1 : inV (.str t.tag) [.str "late", .str "call"] = decide (t.tag ∈ LC) := inV_str t.tag ["late", "call"]
  show if inV (.str t.tag) [.str "late", .str "call"] = true then _ else _
  rw [i1]
  rcases hv with ⟨m1, he⟩ | hv
  · rw [he] at q
    exact ifT (decide_eq_true m1) (q _ x1)
  have m1 : t.tag ∉ LC := hv.elim (fun h => h.1) (fun h => h.1)
  refine ifF (decide_eq_false m1) ?_
  refine ⟨_, rfl, a, _, _, V.str t.tag, rfl, rfl, SqT.of (x1 _ _ ha), at0 _ _, z4, ?_⟩
  intro p2 hp_p2
  generalize hG_p2 : upd _ p2 _ = H2
  obtain ⟨y2, g2⟩ := nw hp_p2 hG_p2
  have x2 := x1.trans y2
  refine ⟨p2, _, rfl, .inl (SqL.of g2), rfl, by simp [flatV], _, rfl, ?_⟩
  have i2 : inV (.str t.tag) [.str "number", .str "early", .str "below", .str "rest"] = decide (t.tag ∈ L4) := inV_str t.tag ["number", "early", "below", "rest"]
  show if inV (.str t.tag) [.str "number", .str "early", .str "below", .str "rest"] = true then _ else _
  rw [i2]
  rcases hv with ⟨_, m2, he⟩ | ⟨_, m2, cs, hl, hc, he⟩
  · rw [he] at q
    exact ifT (decide_eq_true m2) (q _ x2)
  refine ifF (decide_eq_false m2) ?_
  refine ⟨_, rfl, 1, rfl, a, _, rfl, SqT.of (x2 _ _ ha), fun z => (cut1_ne z).elim, fun _ => ?_⟩
  rw [cut1]
  intro p3 hp_p3
  generalize hG_p3 : upd _ p3 _ = H3
  obtain ⟨y3, g3⟩ := nw hp_p3 hG_p3
  have x3 := x2.trans y3
  refine ⟨p3, rfl, ⟨_, SqT.of g3⟩, fun D hD => lc_tup (K := K) (a := p3) (xs := xs) (fun i H' => ∃ acc, H' D = some (.lst acc) ∧ Kp D H3 H' ∧ acc.length ≤ i ∧ acc.isEmpty = (cs.take i).all Tr.ear)
    ⟨[], upd_same, Kp.put, Nat.le_refl _, by simp⟩ ?_ ?_ ?_⟩
  · rintro i H' hi ⟨acc, _, kp, _⟩
    exact SqT.of (kp.at_ (ne_of_none g3 hD) g3)
  · rintro i x H' hi ⟨acc, hacc, kp, hlen, hemp⟩
    have hi2 : i < xs.length := (List.getElem?_eq_some_iff.mp hi).1
    obtain ⟨c, hc1⟩ : ∃ c, cs[i]? = some c := ⟨cs[i]'(by omega), List.getElem?_eq_getElem _⟩
    obtain ⟨d1, d2, d3⟩ := hc i c x hc1 hi
    have xk := x3.trans (kp.ex hD)
    refine ⟨rfl, _, rfl, c, x, rfl, d1.ex xk, d2, by omega, fun H2 e2 => ⟨_, rfl, ?_⟩⟩
    have et := all_take Tr.ear cs i c hc1
    have kp2 := kp.trans (Kp.of e2)
    refine if2 (fun z => ?_) (fun z => ?_)
    · have z' : c.ear = false := by simpa using z
      refine ⟨_, rfl, acc, e2 _ _ hacc, sz' (by omega), acc ++ [x], upd_same, kp2.trans Kp.put, by rw [List.length_append, List.length_singleton]; omega, ?_⟩
      rw [et, z']
      simp
    · have z' : c.ear = true := by simpa using z
      refine ⟨acc, e2 _ _ hacc, kp2, by omega, ?_⟩
      rw [et, z', hemp]
      simp
  · rintro H' ⟨acc, hacc, kp, hlen, hemp⟩
    have xk := x3.trans (kp.ex hD)
    refine ⟨z0, ?_⟩
    intro p4 hp_p4
    generalize hG_p4 : upd _ p4 _ = H4
    obtain ⟨y4, g4⟩ := nw hp_p4 hG_p4
    refine ⟨D, p4, acc, rfl, rfl, SqL.of (y4 _ _ hacc), SqL.of g4, ?_⟩
    rw [hemp, ← hl, List.take_length, ← he]
    exact q _ (xk.trans y4)
theorem l_is_early (D : Dd K mg "_law_is_early" s_law_is_early ["_law_one"]) (T : Tb K mg) : ∀ n : Nat, Dn P w K mg base L2.CX0 n "_law_is_early" (spEar n)
  | 0 => D.none fun vs H Q E h => by
    obtain ⟨t, v, _, _, ho, hh, _⟩ := h
    cases t <;> first | (simp only [Tr.ht] at hh; omega) | cases ho
  | n + 1 => ok_l_is_early D T (l_is_early D T n)
end

end M10
set_option Elab.async false
set_option linter.all false
set_option maxRecDepth 100000
set_option maxHeartbeats 4000000
namespace M10
open PySem PySem.Spec PyProof.Rows L2 Evl
variable {sa : Addr}
/-! ### drawn expressions -/
inductive Fl where
  | e | t | a
/-- an expression (e), a test (t), arguments (a): calls of the functions ns, late numbers below L -/
def Wf (ns : List (Str × Int)) (L : Int) : Tr → Fl → Prop
  | .num n, .e => 0 ≤ n ∧ n ≤ 40
  | .early, .e => True
  | .late i, .e => 0 ≤ i ∧ i < L
  | .two k a b, .e => k ≠ .less ∧ Wf ns L a .e ∧ Wf ns L b .e
  | .ife t a b, .e => Wf ns L t .t ∧ Wf ns L a .e ∧ Wf ns L b .e
  | .call f mk mc as, .e => (∃ m, (f, m) ∈ ns) ∧ MvOk mk mc ∧ Wf ns L as .a
  | .blw _, .t => True
  | .rst m _, .t => 2 ≤ m
  | .two k a b, .t => k = .less ∧ (a.ear && b.ear) = false ∧ Wf ns L a .e ∧ Wf ns L b .e
  | .nil, .a => True
  | .cons a r, .a => Wf ns L a .e ∧ Wf ns L r .a
  | _, _ => False
theorem Wf.okE {ns : List (Str × Int)} {L : Int} : ∀ {t : Tr} {f : Fl}, Wf ns L t f → (match f with | .a => True | _ => t.okE = true)
  | .num n, .e, _ => rfl
  | .early, .e, _ => rfl
  | .late i, .e, _ => rfl
  | .two k a b, .e, ⟨_, h1, h2⟩ => Bool.and_eq_true_iff.mpr ⟨Wf.okE (f := .e) h1, Wf.okE (f := .e) h2⟩
  | .ife t a b, .e, ⟨h0, h1, h2⟩ => Bool.and_eq_true_iff.mpr ⟨Wf.okE (f := .t) h0, Bool.and_eq_true_iff.mpr ⟨Wf.okE (f := .e) h1, Wf.okE (f := .e) h2⟩⟩
  | .call f mk mc as, .e, _ => rfl
  | .blw _, .t, _ => rfl
  | .rst m _, .t, _ => rfl
  | .two k a b, .t, ⟨_, _, h1, h2⟩ => Bool.and_eq_true_iff.mpr ⟨Wf.okE (f := .e) h1, Wf.okE (f := .e) h2⟩
  | .nil, .a, _ => trivial
  | .cons a r, .a, _ => trivial
/-- one more argument -/
def Tr.snoc : Tr → Tr → Tr
  | .cons a r, x => .cons a (r.snoc x)
  | _, x => .cons x .nil
theorem Wf.snoc {ns : List (Str × Int)} {L : Int} {x : Tr} (hx : Wf ns L x .e) : ∀ {as : Tr}, Wf ns L as .a → Wf ns L (as.snoc x) .a ∧ (as.snoc x).wt = as.wt + x.wt ∧ (as.snoc x).ht ≤ max as.ht x.ht
  | .nil, _ => ⟨⟨hx, trivial⟩, by simp [Tr.snoc, Tr.wt], by simp only [Tr.snoc, Tr.ht]; omega⟩
  | .cons a r, ⟨h1, h2⟩ => by
    obtain ⟨i1, i2, i3⟩ := Wf.snoc hx h2
    refine ⟨⟨h1, i1⟩, ?_, ?_⟩
    · show a.wt + (r.snoc x).wt = a.wt + r.wt + x.wt
      omega
    · show max a.ht (r.snoc x).ht ≤ max (max a.ht r.ht) x.ht
      omega
theorem De.snoc {ns : List (Str × Int)} {L : Int} {H : Hp} {x : Tr} {v : V} (hv : De H x [v]) : ∀ {as : Tr} {xs : List V}, Wf ns L as .a → De H as xs → De H (as.snoc x) (xs ++ [v])
  | .nil, xs, _, h => by
    have e : xs = [] := h
    subst e
    exact ⟨v, [], rfl, hv, rfl⟩
  | .cons a r, xs, ⟨_, w⟩, ⟨u, us, e, h1, h2⟩ => by
    subst e
    exact ⟨u, us ++ [v], rfl, h1, De.snoc hv w h2⟩
/-- how many instructions a drawn expression makes at most -/
def BB : Nat → Nat
  | 0 => 1
  | n + 1 => 4 * BB n + 3
theorem BB_pos (n : Nat) : 1 ≤ BB n := by
  cases n with
  | zero => exact Nat.le_refl 1
  | succ n => show 1 ≤ 4 * BB n + 3; omega
theorem BB_mono {m n : Nat} (h : m ≤ n) : BB m ≤ BB n := by
  induction h with
  | refl => exact Nat.le_refl _
  | step _ ih => exact Nat.le_trans ih (by show _ ≤ 4 * BB _ + 3; omega)
theorem BB_le {d : Int} (h : 0 < d) : BB d.toNat = 4 * BB (d - 1).toNat + 3 := by
  obtain ⟨k, hk⟩ : ∃ k : Nat, d = ((k + 1 : Nat) : Int) := ⟨d.toNat - 1, by omega⟩
  have e1 : d.toNat = k + 1 := by omega
  have e2 : (d - 1).toNat = k := by omega
  rw [e1, e2] <;> rfl
/-- a drawn expression of such a depth -/
structure Xp (ns : List (Str × Int)) (L d : Int) (t : Tr) : Prop where
  wf : Wf ns L t .e
  wt : t.wt ≤ BB d.toNat
  ht : t.ht ≤ 2 * d.toNat + 1
/-- a drawn test (d: one less than the depth of its if) -/
structure Xt (ns : List (Str × Int)) (L d : Int) (t : Tr) : Prop where
  wf : Wf ns L t .t
  wt : t.wt ≤ 2 * BB (d - 1).toNat + 1
  ht : t.ht ≤ 2 * (d - 1).toNat + 2
/-- the list of names and numbers of late numbers -/
def Nms (K : PySem.W.Frag) (H : Hp) (l : Addr) (ns : List (Str × Int)) : Prop := ∃ xs : List V, SqL K H l xs ∧ xs.length ≤ 100 ∧ Paired (fun (x : V) (p : Str × Int) => ∃ a, x = .ref a ∧ H a = some (.tup [.str p.1, .int p.2])) xs ns
theorem Nms.kp {K : PySem.W.Frag} {H H' : Hp} {l r : Addr} {ns : List (Str × Int)} {ys : List V} (h : Nms K H l ns) (e : Kp r H H') (n : l ≠ r) (hr : H r = some (.lst ys)) : Nms K H' l ns := by
  obtain ⟨xs, h1, h2, h3⟩ := h
  exact ⟨xs, sl_kp e n h1, h2, L2.Paired.mapP h3 fun x p ⟨a, e1, e2⟩ => ⟨a, e1, e.tx hr _ _ e2⟩⟩
theorem Nms.dr {K : PySem.W.Frag} {H H' : Hp} {l r : Addr} {ns : List (Str × Int)} (h : Nms K H l ns) (d : Dr K sa r H H') (n : l ≠ r) (hr : Row K sa H r) : Nms K H' l ns := by
  obtain ⟨ys, hr⟩ := hr.lst
  exact h.kp d.kp n hr
theorem Paired.mem {α β : Type} {F : α → β → Prop} : ∀ {l : List α} {m : List β}, Paired F l m → ∀ {x : α}, x ∈ l → ∃ y, y ∈ m ∧ F x y
  | _, _, .nil, x, h => by cases h
  | _, _, .cons r t, x, h => by
    rcases List.mem_cons.mp h with e | h
    · subst e
      exact ⟨_, List.mem_cons_self, r⟩
    · obtain ⟨y, h1, h2⟩ := Paired.mem t h
      exact ⟨y, List.mem_cons_of_mem _ h1, h2⟩
/-- the arguments of «_law_expression», «_law_test» -/
structure XA (K : PySem.W.Frag) (sa : Addr) (H : Hp) (r l : Addr) (ns : List (Str × Int)) (L : Int) : Prop where
  row : Row K sa H r
  nms : Nms K H l ns
  ne : l ≠ r
  L0 : 0 ≤ L
  L1 : L ≤ 2
  ok : ∀ p ∈ ns, 0 ≤ p.2 ∧ p.2 ≤ 2
theorem XA.dr {K : PySem.W.Frag} {H H' : Hp} {r l : Addr} {ns : List (Str × Int)} {L : Int} (x : XA K sa H r l ns L) (d : Dr K sa r H H') : XA K sa H' r l ns L := ⟨d.row, x.nms.dr d x.ne x.row, x.ne, x.L0, x.L1, x.ok⟩
def spExpr (K : PySem.W.Frag) (sa : Addr) (n : Nat) : Sp := fun vs H Q _ => ∃ (r l : Addr) (ns : List (Str × Int)) (L d : Int) (b : Bool), vs = [.ref r, .int d, .int L, .ref l, .bl b] ∧ XA K sa H r l ns L ∧ -1 ≤ d ∧ d + 2 ≤ n ∧
  ∀ H' t v, Dr K sa r H H' → De H' t [v] → Xp ns L d t → Q v H'
def spTest (K : PySem.W.Frag) (sa : Addr) (n : Nat) : Sp := fun vs H Q _ => ∃ (r l : Addr) (ns : List (Str × Int)) (L d : Int) (b : Bool), vs = [.ref r, .int d, .int L, .ref l, .bl b] ∧ XA K sa H r l ns L ∧ 0 ≤ d ∧ d + 2 ≤ n ∧
  ∀ H' t v, Dr K sa r H H' → De H' t [v] → Xt ns L d t → Q v H'
section
variable {P : Program} {w : World} {K : PySem.W.Frag} {mg : Str → Option Value} {base : Heap}
theorem sc_law_expression : FnScope ["_law_row", "_law_deep", "_law_lates_here", "_law_names", "_law_is_hot", "_law_way", "_law_kind", "_law_test_here", "_law_name_here", "_law_many", "_law_k"] ["_law_row", "_law_deep", "_law_lates_here", "_law_names", "_law_is_hot"] (defScope s_law_expression) := ⟨rfl, rfl, rfl, by decide +kernel, rfl, by decide +kernel, by decide +kernel⟩
theorem ok_l_expression (D : Dd K mg "_law_expression" s_law_expression ["_law_row", "_law_deep", "_law_lates_here", "_law_names", "_law_is_hot"]) (T : Tb K mg) {n k : Nat} (hk : 4 ≤ k) (c_l_taken : Dn P w K mg base L2.CX0 1 "_law_taken" (spTaken K sa)) (c_l_pick : Dn P w K mg base L2.CX0 2 "_law_pick" (spPick K sa)) (c_l_move : Dn P w K mg base L2.CX0 3 "_law_move" (spMove K sa))
    (c_l_expression : Dn P w K mg base L2.CX0 k "_law_expression" (spExpr K sa n)) (c_l_test : Dn P w K mg base L2.CX0 k "_law_test" (spTest K sa n)) : Dn P w K mg base L2.CX0 (k + 1) "_law_expression" (spExpr K sa (n + 1)) := by
  refine D.ok sc_law_expression (fun vs H Q E h => by obtain ⟨r, l, ns, L, d, b, rfl, _⟩ := h; rfl) (fun f cdv A outer s H vs Q E hr h => ?_)
  obtain ⟨r, l, ns, L, d, b, rfl, hA, d0, d1, q⟩ := h
  refine ⟨_, (pss_cut (sset 5 sc_law_expression.nd (pe_ifExp (pt_cmpR op_gt (pv 1) pe_int (nomark _)) (pe_c0 c_l_taken hr (pa_cons (pv 0) (pa_cons pe_int pa_nil))) (pe_c0 c_l_taken hr (pa_cons (pv 0) (pa_cons pe_int pa_nil)))))
    (pss_cut (ps_if (PW.pt (pw_or (pt_cmpR op_eq (pv 5) pe_int (nomark _)) (pw_or1 (PW.pt (pw_and (pt_cmpR op_eq (pv 5) pe_int (nomark _)) (pw_and1 (pt_cmpR op_eq (pv 2) pe_int (nomark _)))))))) (pss_one (ps_ret (pe_tup (pa_cons pe_str (pa_cons (pe_c0 c_l_pick hr (pa_cons (pv 0) (pa_cons (pe_lst (pa_cons pe_int (pa_cons pe_int (pa_cons pe_int (pa_cons pe_int (pa_cons pe_int (pa_cons pe_int pa_nil))))))) pa_nil))) pa_nil))))) pss_nil)
    (pss_cons (ps_if (pt_cmpR op_eq (pv 5) pe_int (nomark _)) (pss_one (ps_ret (pe_tup (pa_cons pe_str pa_nil)))) pss_nil)
    (pss_cons (ps_if (pt_cmpR op_eq (pv 5) pe_int (nomark _)) (pss_one (ps_ret (pe_tup (pa_cons pe_str (pa_cons (pe_c0 c_l_taken hr (pa_cons (pv 0) (pa_cons (pv 2) pa_nil))) pa_nil))))) pss_nil)
    (pss_cons (ps_if (pt_cmpR op_lt (pv 5) pe_int (nomark _)) (pss_cons (sset 6 sc_law_expression.nd (pe_c0 c_l_pick hr (pa_cons (pv 0) (pa_cons (pe_lst (pa_cons pe_str (pa_cons pe_str (pa_cons pe_str pa_nil)))) pa_nil))))
    (pss_one (ps_ret (pe_tup (pa_cons (pv 6) (pa_cons (pe_c0 c_l_expression hr (pa_cons (pv 0) (pa_cons (pe_op op_sub (pv 1) pe_int) (pa_cons (pv 2) (pa_cons (pv 3) (pa_cons (pv 4) pa_nil)))))) (pa_cons (pe_c0 c_l_expression hr (pa_cons (pv 0) (pa_cons (pe_op op_sub (pv 1) pe_int) (pa_cons (pv 2) (pa_cons (pv 3) (pa_cons (pv 4) pa_nil)))))) pa_nil))))))) pss_nil)
    (pss_cons (ps_if (PW.pt (pw_or (pt_cmpR op_lt (pv 5) pe_int (nomark _)) (pw_or1 (pt_cmpR (op_eqN hr.units0) (pv 3) (pe_lst pa_nil) (nomark _))))) (pss_cons (sset 7 sc_law_expression.nd (pe_c0 c_l_test hr (pa_cons (pv 0) (pa_cons (pe_op op_sub (pv 1) pe_int) (pa_cons (pv 2) (pa_cons (pv 3) (pa_cons (pv 4) pa_nil)))))))
    (pss_one (ps_ret (pe_tup (pa_cons pe_str (pa_cons (pv 7) (pa_cons (pe_c0 c_l_expression hr (pa_cons (pv 0) (pa_cons (pe_op op_sub (pv 1) pe_int) (pa_cons (pv 2) (pa_cons (pv 3) (pa_cons (pv 4) pa_nil)))))) (pa_cons (pe_c0 c_l_expression hr (pa_cons (pv 0) (pa_cons (pe_op op_sub (pv 1) pe_int) (pa_cons (pv 2) (pa_cons (pv 3) (pa_cons (pv 4) pa_nil)))))) pa_nil)))))))) pss_nil)
    (pss_cons (ps_asg (pe_c0 c_l_pick hr (pa_cons (pv 0) (pa_cons (pv 3) pa_nil))) (pg_tup rfl (pgs_cons (gnm 8 sc_law_expression.nd) (pgs_cons (gnm 9 sc_law_expression.nd) pgs_nil))))
    (pss_one (ps_ret (pe_tup (pa_cons pe_str (pa_cons (pv 8) (pa_cons (pe_c0 c_l_move hr (pa_cons (pv 0) (pa_cons (pv 4) pa_nil))) (pa_cons (pct call_tuple_of T.tuple (pa_cons (pe_lc (own := [("_law_k", 10)]) (g := (gName 10)) (tt := tYes) rfl sc_law_expression.nd (pi_range1 rfl T.range (pa_cons (pv 9) pa_nil)) (blkOk_by (N := ["_law_row", "_law_deep", "_law_lates_here", "_law_names", "_law_is_hot", "_law_way", "_law_kind", "_law_test_here", "_law_name_here", "_law_many", "_law_k"]) (sc := defScope s_law_expression) (by decide +kernel)) (fun _ _ _ _ _ => (gnm 10 sc_law_expression.nd)) (fun _ _ _ _ _ => pts_nil) (fun _ _ _ _ _ => (pe_c0 c_l_expression hr (pa_cons (pv 0) (pa_cons (pe_op op_sub (pv 1) pe_int) (pa_cons (pv 2) (pa_cons (pv 3) (pa_cons (pv 4) pa_nil)))))))) pa_nil)) pa_nil)))))))))))))), ?_⟩
  refine ⟨fun σ' H' => ∃ way : Int, σ' = [some (.ref r), some (.int d), some (.int L), some (.ref l), some (.bl b), some (.int way), none, none, none, none, none] ∧ Dr K sa r H H' ∧ 0 ≤ way ∧ (d ≤ 0 → way < 3), ?_, ?_⟩
  · refine ⟨_, rfl, _, _, rfl, rfl, _, rfl, if2 (fun c => ?_) (fun c => ?_)⟩
    · have c' := of_decide_eq_true c
      exact ⟨_, rfl, r, _, rfl, hA.row, by decide, by decide, fun H1 m e m0 m1 => ⟨m, rfl, e, m0, fun z => by omega⟩⟩
    · exact ⟨_, rfl, r, _, rfl, hA.row, by decide, by decide, fun H1 m e m0 m1 => ⟨m, rfl, e, m0, fun _ => m1⟩⟩
  rintro _ H1 ⟨way, rfl, e1, w0, w1⟩
  have A1 := hA.dr e1
  -- number
  have num : ∀ p, H1 p = none → spPick K sa [.ref r, .ref p] (upd H1 p (.lst [.int 0, .int 1, .int 2, .int 3, .int 7, .int 40]))
      (fun v H3 => (2 ≤ sizeLine) ∧ ∀ p', H3 p' = none → Q (.ref p') (upd H3 p' (.tup [.str "number", v]))) L2.E0 := fun p hp => by
    refine ⟨r, p, _, rfl, A1.row.ex (Ex.new hp), .inl (SqL.of upd_same), row_ne A1.row hp, by simp, by decide, fun H3 v d3 hv => ⟨z2, fun p' hp' => ?_⟩⟩
    have hv' : v ∈ ([0, 1, 2, 3, 7, 40] : List Int).map V.int := hv
    obtain ⟨x, hx, rfl⟩ := List.mem_map.mp hv'
    have hb : 0 ≤ x ∧ x ≤ 40 := (by decide : ∀ x ∈ ([0, 1, 2, 3, 7, 40] : List Int), 0 ≤ x ∧ x ≤ 40) x hx
    refine q _ (.num x) _ (((e1.new hp).trans d3).new hp') ⟨p', rfl, upd_same⟩ ⟨hb, ?_, ?_⟩
    · exact BB_pos _
    · show 1 ≤ _
      omega
  refine ⟨fun σ' H' => σ' = [some (.ref r), some (.int d), some (.int L), some (.ref l), some (.bl b), some (.int way), none, none, none, none, none] ∧ H1 = H' ∧ way ≠ 0 ∧ (way = 2 → L ≠ 0), ?_, ?_⟩
  · refine ⟨_, rfl, rfl, _, rfl, if2 (fun c => ifT rfl ⟨_, rfl, z6, num⟩) (fun c => ?_)⟩
    have c0 : way ≠ 0 := fun z => of_decide_eq_false c (by rw [z])
    refine ⟨_, rfl, rfl, _, rfl, if2 (fun c2 => ⟨_, rfl, rfl, _, rfl, if2 (fun c3 => ⟨_, rfl, z6, num⟩) (fun c3 => ?_)⟩) (fun c2 => ?_)⟩
    · have c4 : L ≠ 0 := fun z => of_decide_eq_false c3 (by rw [z])
      exact ⟨rfl, rfl, c0, fun _ => c4⟩
    · have c4 : way ≠ 2 := fun z => of_decide_eq_false c2 (by rw [z])
      exact ⟨rfl, rfl, c0, fun z => absurd z c4⟩
  rintro _ _ ⟨rfl, rfl, w2, w3⟩
  refine ⟨_, rfl, rfl, _, rfl, if2 (fun c => ?_) (fun c => ?_)⟩
  · -- early
    refine ⟨z1, fun p hp => q _ .early _ (e1.new hp) ⟨p, rfl, upd_same⟩ ⟨trivial, BB_pos _, ?_⟩⟩
    show 1 ≤ _
    omega
  have w4 : way ≠ 1 := fun z => of_decide_eq_false c (by rw [z])
  refine ⟨_, rfl, rfl, _, rfl, if2 (fun c => ?_) (fun c => ?_)⟩
  · -- late
    have w5 : way = 2 := V.int.inj (of_decide_eq_true c)
    have L2 := w3 w5
    have L0 := hA.L0
    have L1 := hA.L1
    refine ⟨_, rfl, _, rfl, r, _, rfl, A1.row, by omega, by omega, fun H2 m e2 m0 m1 => ⟨z2, fun p hp => ?_⟩⟩
    refine q _ (.late m) _ ((e1.trans e2).new hp) ⟨p, rfl, upd_same⟩ ⟨⟨m0, m1⟩, BB_pos _, ?_⟩
    show 1 ≤ _
    omega
  have w5 : way ≠ 2 := fun z => of_decide_eq_false c (by rw [z])
  have dpos : 0 < d := by
    by_cases z : 0 < d
    · exact z
    · have := w1 (by omega)
      omega
  have eB := BB_le dpos
  -- a part, one deep less
  have part : ∀ (H2 : Hp) (Q2 : VK), Dr K sa r H H2 → (∀ H3 t v, Dr K sa r H2 H3 → De H3 t [v] → Xp ns L (d - 1) t → Q2 v H3) → spExpr K sa n [.ref r, .int (d - 1), .int L, .ref l, .bl b] H2 Q2 L2.E0 := fun H2 Q2 e2 h =>
    ⟨r, l, ns, L, d - 1, b, rfl, hA.dr e2, by omega, by omega, h⟩
  refine ⟨_, rfl, _, _, rfl, rfl, _, rfl, if2 (fun c => ?_) (fun c => ?_)⟩
  · -- plus, minus, times
    refine ⟨_, rfl, z3, ?_⟩
    intro p2 hp_p2
    generalize hG_p2 : upd _ p2 _ = H2
    obtain ⟨x2, g2⟩ := nw hp_p2 hG_p2
    refine ⟨r, p2, _, rfl, A1.row.ex x2, .inl (SqL.of g2), row_ne A1.row hp_p2, by simp, by decide, fun H3 v d3 hv => ?_⟩
    have hv' : ∃ k : K4, k ≠ .less ∧ v = .str k.s := by
      have hv2 : v ∈ ([.plus, .minus, .times] : List K4).map (fun k => V.str k.s) := hv
      obtain ⟨k, hk, rfl⟩ := List.mem_map.mp hv2
      exact ⟨k, fun z => by subst z; simp at hk, rfl⟩
    obtain ⟨k4, hk4, rfl⟩ := hv'
    have e3 := (e1.ex x2).trans d3
    refine ⟨_, rfl, _, rfl, _, rfl, _, _, rfl, rfl, _, rfl, _, rfl, _, rfl, part _ _ e3 fun H4 t1 v1 e4 D1 X1 => ?_⟩
    have e4' := e3.trans e4
    refine ⟨_, rfl, _, rfl, _, _, rfl, rfl, _, rfl, _, rfl, _, rfl, part _ _ e4' fun H5 t2 v2 e5 D2 X2 => ⟨z3, ?_⟩⟩
    have e5' := e4'.trans e5
    intro p6 hp_p6
    generalize hG_p6 : upd _ p6 _ = H6
    obtain ⟨x6, g6⟩ := nw hp_p6 hG_p6
    refine q _ (.two k4 t1 t2) _ (e5'.ex x6) ⟨p6, v1, v2, rfl, g6, (D1.mono (e5.tx e4'.row)).ex x6, D2.ex x6⟩ ⟨⟨hk4, X1.wf, X2.wf⟩, ?_, ?_⟩
    · have h1 := X1.wt
      have h2 := X2.wt
      show 1 + t1.wt + t2.wt ≤ _
      omega
    · have h1 := X1.ht
      have h2 := X2.ht
      show max t1.ht t2.ht + 1 ≤ _
      omega
  have w6 : ¬ way < 6 := of_decide_eq_false c
  refine ⟨_, rfl, _, _, rfl, rfl, _, rfl, if2 (fun c => ifT rfl ?_) (fun c => ?_)⟩
  · refine ⟨_, rfl, _, rfl, _, _, rfl, rfl, _, rfl, _, rfl, _, rfl, r, l, ns, L, d - 1, b, rfl, hA.dr e1, by omega, by omega, fun H5 t0 v0 e5 D0 X0 => ?_⟩
    have e5' := e1.trans e5
    refine ⟨_, rfl, _, rfl, _, rfl, _, _, rfl, rfl, _, rfl, _, rfl, _, rfl, part _ _ e5' fun H6 t1 v1 e6 D1 X1 => ?_⟩
    have e6' := e5'.trans e6
    refine ⟨_, rfl, _, rfl, _, _, rfl, rfl, _, rfl, _, rfl, _, rfl, part _ _ e6' fun H7 t2 v2 e7 D2 X2 => ⟨z4, ?_⟩⟩
    have e7' := e6'.trans e7
    intro p8 hp_p8
    generalize hG_p8 : upd _ p8 _ = H8
    obtain ⟨x8, g8⟩ := nw hp_p8 hG_p8
    have h0 := X0.wt
    have h1 := X1.wt
    have h2 := X2.wt
    have k0 := X0.ht
    have k1 := X1.ht
    have k2 := X2.ht
    have hB := BB_mono (m := (d - 1 - 1).toNat) (n := (d - 1).toNat) (by omega)
    refine q _ (.ife t0 t1 t2) _ (e7'.ex x8) ⟨p8, v0, v1, v2, rfl, g8, ((D0.mono (e6.tx e5'.row)).mono (e7.tx e6'.row)).ex x8, (D1.mono (e7.tx e6'.row)).ex x8, D2.ex x8⟩ ⟨⟨X0.wf, X1.wf, X2.wf⟩, ?_, ?_⟩
    · show 2 + t0.wt + t1.wt + t2.wt ≤ _
      omega
    · show max t0.ht (max t1.ht t2.ht) + 1 ≤ _
      omega
  refine ⟨_, rfl, z0, ?_⟩
  intro p2 hp_p2
  generalize hG_p2 : upd _ p2 _ = H2
  obtain ⟨x2, g2⟩ := nw hp_p2 hG_p2
  have e2 := e1.ex x2
  obtain ⟨xs, hxs, hxl, hpx⟩ := id (hA.dr e2).nms
  refine ⟨l, p2, xs, rfl, rfl, hxs, SqL.of g2, _, rfl, if2 (fun c => ?_) (fun c => ?_)⟩
  · refine ⟨_, rfl, _, rfl, _, _, rfl, rfl, _, rfl, _, rfl, _, rfl, r, l, ns, L, d - 1, b, rfl, hA.dr e2, by omega, by omega, fun H5 t0 v0 e5 D0 X0 => ?_⟩
    have e5' := e2.trans e5
    refine ⟨_, rfl, _, rfl, _, rfl, _, _, rfl, rfl, _, rfl, _, rfl, _, rfl, part _ _ e5' fun H6 t1 v1 e6 D1 X1 => ?_⟩
    have e6' := e5'.trans e6
    refine ⟨_, rfl, _, rfl, _, _, rfl, rfl, _, rfl, _, rfl, _, rfl, part _ _ e6' fun H7 t2 v2 e7 D2 X2 => ⟨z4, ?_⟩⟩
    have e7' := e6'.trans e7
    intro p8 hp_p8
    generalize hG_p8 : upd _ p8 _ = H8
    obtain ⟨x8, g8⟩ := nw hp_p8 hG_p8
    have h0 := X0.wt
    have h1 := X1.wt
    have h2 := X2.wt
    have k0 := X0.ht
    have k1 := X1.ht
    have k2 := X2.ht
    have hB := BB_mono (m := (d - 1 - 1).toNat) (n := (d - 1).toNat) (by omega)
    refine q _ (.ife t0 t1 t2) _ (e7'.ex x8) ⟨p8, v0, v1, v2, rfl, g8, ((D0.mono (e6.tx e5'.row)).mono (e7.tx e6'.row)).ex x8, (D1.mono (e7.tx e6'.row)).ex x8, D2.ex x8⟩ ⟨⟨X0.wf, X1.wf, X2.wf⟩, ?_, ?_⟩
    · show 2 + t0.wt + t1.wt + t2.wt ≤ _
      omega
    · show max t0.ht (max t1.ht t2.ht) + 1 ≤ _
      omega
  have hne : xs ≠ [] := fun z => by
    rw [z] at c
    cases c
  refine ⟨_, rfl, _, rfl, r, l, xs, rfl, (hA.dr e2).row, .inl hxs, hA.ne, hne, by omega, fun H3 v e3 hv => ?_⟩
  have e3' := e2.trans e3
  obtain ⟨⟨fn, mn⟩, hmem, a, rfl, ha⟩ := Paired.mem hpx hv
  have ha3 := e3.tx e2.row _ _ ha
  have hmn := hA.ok _ hmem
  refine ⟨a, _, rfl, SqT.of ha3, rfl, _, _, rfl, _, _, rfl, rfl, ?_⟩
  refine ⟨_, rfl, _, rfl, _, rfl, r, b, rfl, e3'.row, fun H4 mv mk mc e4 hmv hok => ?_⟩
  have e4' := e3'.trans e4
  refine ⟨_, rfl, mn, rfl, by omega, by omega, fun DD hD => ?_⟩
  refine lc_range (lo := 0) (n := mn.toNat) (fun i H' => ∃ (as : Tr) (acc : List V), H' DD = some (.lst acc) ∧ acc.length ≤ i ∧ DD ≠ r ∧ Dr K sa r H H' ∧ H' mv = some (.tup [.str mk, .int mc]) ∧ De H' as acc ∧ Wf ns L as .a ∧ as.wt ≤ i * BB (d - 2).toNat ∧ as.ht ≤ 2 * (d - 2).toNat + 1)
    ⟨.nil, [], upd_same, Nat.le_refl _, row_ne e4'.row hD, e4'.ex (Ex.new hD), (Ex.new hD) _ _ hmv, rfl, trivial, Nat.zero_le _, (by show 1 ≤ _; omega)⟩ ?_ ?_
  · rintro i H' hi ⟨as, acc, hacc, hal, hDr, e5, hmv5, hde, hwf, hwt, hht⟩
    refine ⟨rfl, _, rfl, _, rfl, _, _, rfl, rfl, _, rfl, _, rfl, _, rfl, r, l, ns, L, d - 2, b, rfl, hA.dr e5, by omega, by omega, fun H6 t v e6 D6 X6 => ?_⟩
    have tx6 := e6.tx e5.row
    have hacc6 := e6.kp _ _ hDr hacc
    have e7 := e5.trans e6
    obtain ⟨i1, i2, i3⟩ := Wf.snoc X6.wf hwf
    have txu : Tx H6 (upd H6 DD (.lst (acc ++ [v]))) := (Kp.put (r := DD)).tx hacc6
    have X6w := X6.wt
    have X6h := X6.ht
    refine ⟨acc, hacc6, sz' (by omega), as.snoc t, acc ++ [v], upd_same, by rw [List.length_append, List.length_singleton]; omega, hDr, ?_, txu _ _ (tx6 _ _ hmv5), (De.snoc D6 hwf (hde.mono tx6)).mono txu, i1, ?_, by omega⟩
    · exact e4'.own hD e7
    · rw [i2, Nat.succ_mul]
      omega
  · rintro H' ⟨as, acc, hacc, hal, hDr, e5, hmv5, hde, hwf, hwt, hht⟩
    refine ⟨DD, acc, rfl, .inl ⟨SqL.of hacc, ?_⟩⟩
    intro p6 hp_p6
    generalize hG_p6 : upd _ p6 _ = H6
    obtain ⟨x6, g6⟩ := nw hp_p6 hG_p6
    refine ⟨z4, ?_⟩
    intro p7 hp_p7
    generalize hG_p7 : upd _ p7 _ = H7
    obtain ⟨x7, g7⟩ := nw hp_p7 hG_p7
    have x67 := x6.trans x7
    have hB := BB_mono (m := (d - 2).toNat) (n := (d - 1).toNat) (by omega)
    have hm2 : mn.toNat * BB (d - 2).toNat ≤ 2 * BB (d - 2).toNat := Nat.mul_le_mul_right _ (by omega)
    refine q _ (.call fn mk mc as) _ (e5.ex x67) ⟨p7, mv, p6, acc, rfl, g7, x67 _ _ hmv5, x7 _ _ g6, hde.ex x67⟩ ⟨⟨⟨mn, hmem⟩, hok, hwf⟩, ?_, ?_⟩
    · show 1 + as.wt ≤ _
      omega
    · show as.ht + 1 ≤ _
      omega
theorem sc_law_test : FnScope ["_law_row", "_law_deep", "_law_lates_here", "_law_names", "_law_is_hot", "_law_way", "_law_divisor", "_law_one", "_law_other"] ["_law_row", "_law_deep", "_law_lates_here", "_law_names", "_law_is_hot"] (defScope s_law_test) := ⟨rfl, rfl, rfl, by decide +kernel, rfl, by decide +kernel, by decide +kernel⟩
theorem ok_l_test (D : Dd K mg "_law_test" s_law_test ["_law_row", "_law_deep", "_law_lates_here", "_law_names", "_law_is_hot"]) (T : Tb K mg) {n k : Nat} (hk : 30 ≤ k) (c_l_taken : Dn P w K mg base L2.CX0 1 "_law_taken" (spTaken K sa)) (c_l_pick : Dn P w K mg base L2.CX0 2 "_law_pick" (spPick K sa))
    (c_l_is_early : Dn P w K mg base L2.CX0 30 "_law_is_early" (spEar 30)) (hn : n ≤ 8)
    (c_l_expression : Dn P w K mg base L2.CX0 k "_law_expression" (spExpr K sa n)) : Dn P w K mg base L2.CX0 (k + 1) "_law_test" (spTest K sa (n + 1)) := by
  refine D.ok sc_law_test (fun vs H Q E h => by obtain ⟨r, l, ns, L, d, b, rfl, _⟩ := h; rfl) (fun f cdv A outer s H vs Q E hr h => ?_)
  obtain ⟨r, l, ns, L, d, b, rfl, hA, d0, d1, q⟩ := h
  refine ⟨_, (pss_cons (sset 5 sc_law_test.nd (pe_c0 c_l_taken hr (pa_cons (pv 0) (pa_cons pe_int pa_nil))))
    (pss_cons (ps_if (pt_cmpR op_lt (pv 5) pe_int (nomark _)) (pss_one (ps_ret (pe_tup (pa_cons pe_str (pa_cons (pe_c0 c_l_pick hr (pa_cons (pv 0) (pa_cons (pe_lst (pa_cons pe_int (pa_cons pe_int (pa_cons pe_int (pa_cons pe_int (pa_cons pe_int pa_nil)))))) pa_nil))) pa_nil))))) pss_nil)
    (pss_cons (ps_if (pt_cmpR op_eq (pv 5) pe_int (nomark _)) (pss_cons (sset 6 sc_law_test.nd (pe_op op_add pe_int (pe_c0 c_l_taken hr (pa_cons (pv 0) (pa_cons pe_int pa_nil)))))
    (pss_one (ps_ret (pe_tup (pa_cons pe_str (pa_cons (pv 6) (pa_cons (pe_c0 c_l_taken hr (pa_cons (pv 0) (pa_cons (pv 6) pa_nil))) pa_nil))))))) pss_nil)
    (pss_cons (ps_par (i := 7) (j := 8) (by rfl) sc_law_test.nd rfl rfl (by decide) rfl rfl (pa_cons (pe_c0 c_l_expression hr (pa_cons (pv 0) (pa_cons (pe_op op_sub (pv 1) pe_int) (pa_cons (pv 2) (pa_cons (pv 3) (pa_cons (pv 4) pa_nil)))))) (pa_cons (pe_c0 c_l_expression hr (pa_cons (pv 0) (pa_cons (pe_op op_sub (pv 1) pe_int) (pa_cons (pv 2) (pa_cons (pv 3) (pa_cons (pv 4) pa_nil)))))) pa_nil)) (by rfl))
    (pss_cons (ps_if (PW.pt (pw_and (pt_val (pe_c0 c_l_is_early hr (pa_cons (pv 7) pa_nil))) (pw_and1 (pt_val (pe_c0 c_l_is_early hr (pa_cons (pv 8) pa_nil)))))) (pss_one (ps_ret (pe_ifExp (pt_cmpR op_eq (pv 2) pe_int (nomark _)) (pe_tup (pa_cons pe_str (pa_cons (pe_op op_add pe_int (pe_c0 c_l_taken hr (pa_cons (pv 0) (pa_cons pe_int pa_nil)))) pa_nil))) (pe_tup (pa_cons pe_str (pa_cons (pv 7) (pa_cons (pe_tup (pa_cons pe_str (pa_cons (pe_c0 c_l_taken hr (pa_cons (pv 0) (pa_cons (pv 2) pa_nil))) pa_nil))) pa_nil))))))) pss_nil)
    (pss_one (ps_ret (pe_tup (pa_cons pe_str (pa_cons (pv 7) (pa_cons (pv 8) pa_nil))))))))))), ?_⟩
  refine ⟨_, rfl, r, _, rfl, hA.row, by decide, by decide, fun H1 way e1 w0 w1 => ?_⟩
  have A1 := hA.dr e1
  have Bp := BB_pos (d - 1).toNat
  refine ⟨_, rfl, _, _, rfl, rfl, _, rfl, if2 (fun c => ?_) (fun c => ?_)⟩
  · refine ⟨_, rfl, z5, ?_⟩
    intro p2 hp_p2
    generalize hG_p2 : upd _ p2 _ = H2
    obtain ⟨x2, g2⟩ := nw hp_p2 hG_p2
    refine ⟨r, p2, _, rfl, A1.row.ex x2, .inl (SqL.of g2), row_ne A1.row hp_p2, by simp, by decide, fun H3 v e3 hv => ⟨z2, ?_⟩⟩
    intro p4 hp_p4
    generalize hG_p4 : upd _ p4 _ = H4
    obtain ⟨x4, g4⟩ := nw hp_p4 hG_p4
    have hv' : v ∈ ([1, 1, 2, 4, 6] : List Int).map V.int := hv
    obtain ⟨x, hx, rfl⟩ := List.mem_map.mp hv'
    exact q _ (.blw x) _ (((e1.ex x2).trans e3).ex x4) ⟨p4, rfl, g4⟩ ⟨trivial, Nat.zero_le _, (by show 1 ≤ _; omega)⟩
  refine ⟨_, rfl, rfl, _, rfl, if2 (fun c => ?_) (fun c => ?_)⟩
  · refine ⟨_, rfl, r, _, rfl, A1.row, by decide, by decide, fun H2 m e2 m0 m1 => ⟨_, _, rfl, rfl, ?_⟩⟩
    have e2' := e1.trans e2
    refine ⟨_, rfl, _, rfl, _, rfl, r, _, rfl, e2'.row, by omega, by omega, fun H3 z e3 _ _ => ⟨z3, ?_⟩⟩
    intro p4 hp_p4
    generalize hG_p4 : upd _ p4 _ = H4
    obtain ⟨x4, g4⟩ := nw hp_p4 hG_p4
    exact q _ (.rst (2 + m) z) _ ((e2'.trans e3).ex x4) ⟨p4, rfl, g4⟩ ⟨(by show 2 ≤ 2 + m; omega), Nat.zero_le _, (by show 1 ≤ _; omega)⟩
  have part : ∀ (H2 : Hp) (Q2 : VK), Dr K sa r H H2 → (∀ H3 t v, Dr K sa r H2 H3 → De H3 t [v] → Xp ns L (d - 1) t → Q2 v H3) → spExpr K sa n [.ref r, .int (d - 1), .int L, .ref l, .bl b] H2 Q2 L2.E0 := fun H2 Q2 e2 h =>
    ⟨r, l, ns, L, d - 1, b, rfl, hA.dr e2, by omega, by omega, h⟩
  refine ⟨_, rfl, _, rfl, _, _, rfl, rfl, _, rfl, _, rfl, _, rfl, part _ _ e1 fun H2 t1 v1 e2 D1 X1 => ?_⟩
  have e2' := e1.trans e2
  refine ⟨_, rfl, _, rfl, _, _, rfl, rfl, _, rfl, _, rfl, _, rfl, part _ _ e2' fun H3 t2 v2 e3 D2 X2 => ⟨_, _, rfl, ?_⟩⟩
  have e3' := e2'.trans e3
  have D1' := D1.mono (e3.tx e2'.row)
  have h1 := X1.wt
  have h2 := X2.wt
  have k1 := X1.ht
  have k2 := X2.ht
  -- both early?
  have less : ∀ H4, Dr K sa r H H4 → De H4 t1 [v1] → De H4 t2 [v2] → (t1.ear && t2.ear) = false → (3 ≤ sizeLine) ∧ ∀ p, H4 p = none → Q (.ref p) (upd H4 p (.tup [.str "less", v1, v2])) := fun H4 e4 D1 D2 he => by
    refine ⟨z3, ?_⟩
    intro p5 hp_p5
    generalize hG_p5 : upd _ p5 _ = H5
    obtain ⟨x5, g5⟩ := nw hp_p5 hG_p5
    refine q _ (.two .less t1 t2) _ (e4.ex x5) ⟨p5, v1, v2, rfl, g5, D1.ex x5, D2.ex x5⟩ ⟨⟨rfl, he, X1.wf, X2.wf⟩, ?_, ?_⟩
    · show 1 + t1.wt + t2.wt ≤ _
      omega
    · show max t1.ht t2.ht + 1 ≤ _
      omega
  refine ⟨_, rfl, t1, _, rfl, D1', X1.wf.okE, by omega, fun H4 x4 => ⟨_, rfl, if2 (fun c1 => ?_) (fun c1 => ?_)⟩⟩
  · refine ⟨_, rfl, t2, _, rfl, D2.ex x4, X2.wf.okE, by omega, fun H5 x5 => ⟨_, rfl, ?_⟩⟩
    have x45 := x4.trans x5
    refine if2 (fun c2 => ?_) (fun c2 => ?_)
    · refine ⟨_, rfl, rfl, _, rfl, if2 (fun c3 => ?_) (fun c3 => ?_)⟩
      · refine ⟨_, rfl, r, _, rfl, (e3'.ex x45).row, by decide, by decide, fun H6 m e6 m0 m1 => ⟨_, _, rfl, rfl, z2, ?_⟩⟩
        intro p7 hp_p7
        generalize hG_p7 : upd _ p7 _ = H7
        obtain ⟨x7, g7⟩ := nw hp_p7 hG_p7
        exact q _ (.blw (1 + m)) _ (((e3'.ex x45).trans e6).ex x7) ⟨p7, rfl, g7⟩ ⟨trivial, Nat.zero_le _, (by show 1 ≤ _; omega)⟩
      · have L0 : L ≠ 0 := fun z => of_decide_eq_false c3 (by rw [z])
        have La := hA.L0
        have Lb := hA.L1
        refine ⟨_, rfl, _, rfl, _, rfl, r, _, rfl, (e3'.ex x45).row, by omega, by omega, fun H6 m e6 m0 m1 => ⟨z2, ?_⟩⟩
        intro p7 hp_p7
        generalize hG_p7 : upd _ p7 _ = H7
        obtain ⟨x7, g7⟩ := nw hp_p7 hG_p7
        refine ⟨z3, ?_⟩
        intro p8 hp_p8
        generalize hG_p8 : upd _ p8 _ = H8
        obtain ⟨x8, g8⟩ := nw hp_p8 hG_p8
        have x78 := x7.trans x8
        have tx := e6.tx (e3'.ex x45).row
        refine q _ (.two .less t1 (.late m)) _ (((e3'.ex x45).trans e6).ex x78) ⟨p8, v1, .ref p7, rfl, g8, ((D1'.ex x45).mono tx).ex x78, ⟨p7, rfl, x8 _ _ g7⟩⟩ ⟨⟨rfl, by simp [Tr.ear], X1.wf, m0, m1⟩, ?_, ?_⟩
        · show 1 + t1.wt + 1 ≤ _
          omega
        · show max t1.ht 1 + 1 ≤ _
          omega
    · exact ⟨_, rfl, _, rfl, less _ (e3'.ex x45) (D1'.ex x45) (D2.ex x45) (by rw [c2, Bool.and_false])⟩
  · exact ⟨_, rfl, _, rfl, less _ (e3'.ex x4) (D1'.ex x4) (D2.ex x4) (by rw [c1, Bool.false_and])⟩
theorem xt_both (DE : Dd K mg "_law_expression" s_law_expression ["_law_row", "_law_deep", "_law_lates_here", "_law_names", "_law_is_hot"]) (DT : Dd K mg "_law_test" s_law_test ["_law_row", "_law_deep", "_law_lates_here", "_law_names", "_law_is_hot"]) (T : Tb K mg)
    (c1 : Dn P w K mg base L2.CX0 1 "_law_taken" (spTaken K sa)) (c2 : Dn P w K mg base L2.CX0 2 "_law_pick" (spPick K sa)) (c3 : Dn P w K mg base L2.CX0 3 "_law_move" (spMove K sa)) (c4 : Dn P w K mg base L2.CX0 30 "_law_is_early" (spEar 30)) :
    ∀ n : Nat, n ≤ 8 → Dn P w K mg base L2.CX0 (n + 30) "_law_expression" (spExpr K sa n) ∧ Dn P w K mg base L2.CX0 (n + 30) "_law_test" (spTest K sa n)
  | 0, _ => ⟨DE.none fun vs H Q E h => by obtain ⟨r, l, ns, L, d, b, _, _, d0, d1, _⟩ := h; omega, DT.none fun vs H Q E h => by obtain ⟨r, l, ns, L, d, b, _, _, d0, d1, _⟩ := h; omega⟩
  | n + 1, h => by
    obtain ⟨i1, i2⟩ := xt_both DE DT T c1 c2 c3 c4 n (by omega)
    have a1 := ok_l_expression DE T (by omega) c1 c2 c3 i1 i2
    have a2 := ok_l_test DT T (by omega) c1 c2 c4 (by omega) i1
    rw [show n + 1 + 30 = n + 30 + 1 by omega]
    exact ⟨a1, a2⟩
end

end M10
set_option Elab.async false
set_option linter.all false
set_option maxRecDepth 100000
set_option maxHeartbeats 4000000
namespace M10
open PySem PySem.Spec PyProof.Rows L2 Evl
variable {sa : Addr}
/-! ### a drawn program -/
abbrev Fun3 : Type := Str × Int × Tr
/-- the function q stands at x -/
def F3 (H : Hp) (x : V) (q : Fun3) : Prop := ∃ a v, x = .ref a ∧ H a = some (.tup [.str q.1, .int q.2.1, v]) ∧ De H q.2.2 [v]
theorem F3.mono {H H' : Hp} {x : V} {q : Fun3} (h : F3 H x q) (e : Tx H H') : F3 H' x q := by
  obtain ⟨a, v, e1, e2, e3⟩ := h
  exact ⟨a, v, e1, e _ _ e2, e3.mono e⟩
def F3s (H : Hp) (xs : List V) (pr : List Fun3) : Prop := Paired (F3 H) xs pr
theorem F3s.mono {H H' : Hp} {xs : List V} {pr : List Fun3} (h : F3s H xs pr) (e : Tx H H') : F3s H' xs pr := L2.Paired.mapP h fun _ _ h => F3.mono h e
def nsOf (pr : List Fun3) : List (Str × Int) := pr.map fun q => (q.1, q.2.1)
structure WfPr (pr : List Fun3) : Prop where
  ne : pr ≠ []
  len : pr.length ≤ 4
  ok : ∀ q ∈ pr, q.1 ∈ nm8 ∧ 0 ≤ q.2.1 ∧ q.2.1 ≤ 2 ∧ Wf (nsOf pr) q.2.1 q.2.2 .e ∧ q.2.2.wt ≤ 600 ∧ q.2.2.ht ≤ 12
theorem Wf.mono {ns ns' : List (Str × Int)} {L : Int} (h : ∀ p ∈ ns, p ∈ ns') : ∀ {t : Tr} {f : Fl}, Wf ns L t f → Wf ns' L t f
  | .num n, .e, w => w
  | .early, .e, w => w
  | .late i, .e, w => w
  | .two k a b, .e, ⟨k0, h1, h2⟩ => ⟨k0, Wf.mono h (f := .e) h1, Wf.mono h (f := .e) h2⟩
  | .ife t a b, .e, ⟨h0, h1, h2⟩ => ⟨Wf.mono h (f := .t) h0, Wf.mono h (f := .e) h1, Wf.mono h (f := .e) h2⟩
  | .call f mk mc as, .e, ⟨⟨m, hm⟩, h1, h2⟩ => ⟨⟨m, h _ hm⟩, h1, Wf.mono h (f := .a) h2⟩
  | .blw _, .t, w => w
  | .rst m _, .t, w => w
  | .two k a b, .t, ⟨k0, he, h1, h2⟩ => ⟨k0, he, Wf.mono h (f := .e) h1, Wf.mono h (f := .e) h2⟩
  | .nil, .a, w => w
  | .cons a r, .a, ⟨h1, h2⟩ => ⟨Wf.mono h (f := .e) h1, Wf.mono h (f := .a) h2⟩
def spProgram (K : PySem.W.Frag) (sa : Addr) : Sp := fun vs H Q _ => ∃ (r : Addr) (b : Bool), vs = [.ref r, .bl b] ∧ Row K sa H r ∧ ∀ H' p xs pr, Dr K sa r H H' → H' p = some (.tup xs) → F3s H' xs pr → WfPr pr → Q (.ref p) H'
theorem Paired.snoc {α β : Type} {F : α → β → Prop} {x : α} {y : β} (h : F x y) : ∀ {l : List α} {m : List β}, Paired F l m → Paired F (l ++ [x]) (m ++ [y])
  | _, _, .nil => .cons h .nil
  | _, _, .cons r t => .cons r (Paired.snoc h t)
theorem Paired.at_ {α β : Type} {F : α → β → Prop} : ∀ {l : List α} {m : List β} {i : Nat} {x : α}, Paired F l m → l[i]? = some x → ∃ y, m[i]? = some y ∧ F x y
  | _, _, _, _, .nil, h => by simp at h
  | _, _, 0, _, .cons r _, h => by
    simp at h
    subst h
    exact ⟨_, rfl, r⟩
  | _, _, i + 1, _, .cons _ t, h => by
    obtain ⟨y, h1, h2⟩ := Paired.at_ t (by simpa using h)
    exact ⟨y, by simpa using h1, h2⟩
theorem take_snoc {α : Type} {l : List α} {i : Nat} {x : α} (h : l[i]? = some x) : l.take (i + 1) = l.take i ++ [x] := by
  rw [List.take_succ, h] <;> rfl
/-- a name with its number of late numbers stands at x -/
def N2 (H : Hp) (x : V) (p : Str × Int) : Prop := ∃ a, x = .ref a ∧ H a = some (.tup [.str p.1, .int p.2])
theorem N2.mono {H H' : Hp} (e : Tx H H') {x : V} {p : Str × Int} (h : N2 H x p) : N2 H' x p := by
  obtain ⟨a, e1, e2⟩ := h
  exact ⟨a, e1, e _ _ e2⟩
section
variable {P : Program} {w : World} {K : PySem.W.Frag} {mg : Str → Option Value} {base : Heap}
theorem sc_law_program : FnScope ["_law_row", "_law_is_hot", "_law_names", "_law_found", "_law_turn", "_law_name_here", "_law_many", "_law_body_here", "_law_rest", "_law_one"] ["_law_row", "_law_is_hot"] (defScope s_law_program) := ⟨rfl, rfl, rfl, by decide +kernel, rfl, by decide +kernel, by decide +kernel⟩
theorem ok_l_program (D : Dd K mg "_law_program" s_law_program ["_law_row", "_law_is_hot"]) (T : Tb K mg) (c_l_taken : Dn P w K mg base L2.CX0 1 "_law_taken" (spTaken K sa)) (c_l_name : Dn P w K mg base L2.CX0 3 "_law_name" (spName K sa))
    (c_l_expression : Dn P w K mg base L2.CX0 38 "_law_expression" (spExpr K sa 8)) : Dn P w K mg base L2.CX0 39 "_law_program" (spProgram K sa) := by
  refine D.ok sc_law_program (fun vs H Q E h => by obtain ⟨r, b, rfl, _⟩ := h; rfl) (fun f cdv A outer s H vs Q E hr h => ?_)
  obtain ⟨r, b, rfl, hR, q⟩ := h
  refine ⟨_, (pss_cons (ps_par (i := 2) (j := 3) (by rfl) sc_law_program.nd rfl rfl (by decide) rfl rfl (pa_cons (pe_lst pa_nil) (pa_cons (pe_lst pa_nil) pa_nil)) (by rfl))
    (pss_cons (ps_for PassesOwn.never rfl (pi_range1 rfl T.range (pa_cons (pe_op op_add pe_int (pe_c0 c_l_taken hr (pa_cons (pv 0) (pa_cons pe_int pa_nil)))) pa_nil)) (gnm 4 sc_law_program.nd) (pss_cons (sset 5 sc_law_program.nd (pe_c0 c_l_name hr (pa_cons (pv 0) pa_nil)))
    (pss_one (ps_if (pt_cmpR op_notIn_seq (pv 5) (pe_lc (own := [("_law_one", 9), ("_law_many", 6)]) (g := (gTup K 2 (gCons (gName 9) (gCons (gName 6) gNil)))) (tt := tYes) rfl sc_law_program.nd (pi_list (pv 2)) (blkOk_by (N := ["_law_row", "_law_is_hot", "_law_names", "_law_found", "_law_turn", "_law_name_here", "_law_many", "_law_body_here", "_law_rest", "_law_one"]) (sc := defScope s_law_program) (by decide +kernel)) (fun _ _ _ _ _ => (pg_tup rfl (pgs_cons (gnm 9 sc_law_program.nd) (pgs_cons (gnm 6 sc_law_program.nd) pgs_nil)))) (fun _ _ _ _ _ => pts_nil) (fun _ _ _ _ _ => (pv 9))) rfl) (pss_one (ps_expr (pe_bm PySem.F.plainAttrs_list PySem.F.slot_list_append PySem.F.type_list_append mt_append (pv 2) (pa_cons (pe_tup (pa_cons (pv 5) (pa_cons (pe_c0 c_l_taken hr (pa_cons (pv 0) (pa_cons pe_int pa_nil))) pa_nil))) pa_nil)))) pss_nil))))
    (pss_cons (ps_for PassesOwn.never rfl (pi_list (pv 2)) (pg_tup rfl (pgs_cons (gnm 5 sc_law_program.nd) (pgs_cons (gnm 6 sc_law_program.nd) pgs_nil))) (pss_cons (sset 7 sc_law_program.nd (pe_c0 c_l_expression hr (pa_cons (pv 0) (pa_cons pe_int (pa_cons (pv 6) (pa_cons (pv 2) (pa_cons (pv 1) pa_nil)))))))
    (pss_cut (ps_if (pt_cmpR op_gt (pe_c0 c_l_taken hr (pa_cons (pv 0) (pa_cons pe_int pa_nil))) pe_int (nomark _)) (pss_cons (sset 8 sc_law_program.nd (pe_c0 c_l_expression hr (pa_cons (pv 0) (pa_cons pe_int (pa_cons (pv 6) (pa_cons (pe_lst pa_nil) (pa_cons pe_bl pa_nil)))))))
    (pss_one (sset 7 sc_law_program.nd (pe_tup (pa_cons pe_str (pa_cons (pe_tup (pa_cons pe_str (pa_cons pe_int pa_nil))) (pa_cons (pv 8) (pa_cons (pv 7) pa_nil)))))))) pss_nil)
    (pss_one (ps_expr (pe_bm PySem.F.plainAttrs_list PySem.F.slot_list_append PySem.F.type_list_append mt_append (pv 3) (pa_cons (pe_tup (pa_cons (pv 5) (pa_cons (pv 6) (pa_cons (pv 7) pa_nil)))) pa_nil)))))))
    (pss_one (ps_ret (pct call_tuple_of T.tuple (pa_cons (pv 3) pa_nil))))))), ?_⟩
  refine ⟨z0, ?_⟩
  intro l hp_l
  generalize hG_l : upd _ l _ = H1
  obtain ⟨x1, g1⟩ := nw hp_l hG_l
  refine ⟨z0, ?_⟩
  intro fo hp_fo
  generalize hG_fo : upd _ fo _ = H2
  obtain ⟨x2, g2⟩ := nw hp_fo hG_fo
  have nlr : l ≠ r := row_ne hR hp_l
  have nfr : fo ≠ r := row_ne (hR.ex x1) hp_fo
  have nlf : l ≠ fo := ne_of_none g1 hp_fo
  have e2 : Dr K sa r H H2 := ((Dr.refl hR).ex x1).ex x2
  have gl2 := x2 _ _ g1
  have hl0 : H l = none := hp_l
  have hf0 : H fo = none := fresh_back x1 hp_fo
  refine ⟨_, _, rfl, ?_⟩
  refine ⟨_, rfl, r, _, rfl, e2.row, by decide, by decide, fun H3 m e3 m0 m1 => ⟨_, _, rfl, rfl, 1 + m, rfl, by omega, by omega, ?_⟩⟩
  have e3' := e2.trans e3
  have hf3 : H3 fo = some (.lst []) := e3.kp _ _ nfr g2
  have hl3 : H3 l = some (.lst []) := e3.kp _ _ nlr gl2
  refine for_range (lo := 0) (n := (1 + m).toNat) (fun i σ' H' => ∃ (v4 v5 v6 : Option V) (xs : List V) (ns : List (Str × Int)), σ' = [some (.ref r), some (.bl b), some (.ref l), some (.ref fo), v4, v5, v6, none, none, none] ∧ H' l = some (.lst xs) ∧ Paired (N2 H') xs ns ∧ ns.length ≤ i ∧ (1 ≤ i → ns ≠ []) ∧ (∀ p ∈ ns, p.1 ∈ nm8 ∧ 0 ≤ p.2 ∧ p.2 ≤ 2) ∧ Dr K sa r H H' ∧ H' fo = some (.lst []))
    ⟨_, _, _, [], [], rfl, hl3, .nil, Nat.zero_le _, fun z => absurd z (by decide), fun p hp => absurd hp List.not_mem_nil, e3', hf3⟩ ?_ ?_
  · rintro i _ H4 hi ⟨v4, v5, v6, xs, ns, rfl, hxl, hpx, hln, hne, hok, e4, hf4⟩
    refine ⟨_, rfl, r, rfl, e4.row, fun H5 x e5 hx => ?_⟩
    have tx5 := e5.tx e4.row
    have hl5 : H5 l = some (.lst xs) := e5.kp _ _ nlr hxl
    have hf5 : H5 fo = some (.lst []) := e5.kp _ _ nfr hf4
    have hp5 : Paired (N2 H5) xs ns := L2.Paired.mapP hpx fun _ _ h => N2.mono tx5 h
    have e5' := e4.trans e5
    refine ⟨_, rfl, _, rfl, l, rfl, ⟨_, SqL.of hl5⟩, fun D hD => ?_⟩
    have nlD : l ≠ D := ne_of_none hl5 hD
    refine lc_list (K := K) (a := l) (xs := xs) (fun i H' => ∃ acc : List Str, H' D = some (.lst (acc.map V.str)) ∧ acc.length ≤ i ∧ Kp D H5 H' ∧ acc = (ns.take i).map Prod.fst) ⟨[], upd_same, Nat.le_refl _, Kp.put, by simp⟩ ?_ ?_ ?_
    · rintro j H' _ ⟨acc, _, _, kp, _⟩
      exact SqL.of (kp.at_ nlD hl5)
    · rintro j y H' hj ⟨acc, hacc, hal, kp, hpa⟩
      obtain ⟨p, hp1, a, rfl, ha⟩ := Paired.at_ hp5 hj
      have tk := Tx.of (kp.ex hD)
      refine ⟨a, _, rfl, SqT.of (tk _ _ ha), rfl, _, _, rfl, _, _, rfl, rfl, rfl, ?_⟩
      have hj2 : j < ns.length := (List.getElem?_eq_some_iff.mp hp1).1
      refine ⟨_, rfl, acc.map V.str, hacc, sz' (by rw [List.length_map]; omega), acc ++ [p.1], by rw [List.map_append]; exact upd_same, by rw [List.length_append, List.length_singleton]; omega, kp.trans Kp.put, ?_⟩
      rw [hpa, take_snoc hp1, List.map_append] <;> rfl
    · rintro H6 ⟨acc, hacc, hal, kp, hpa⟩
      have x6 := kp.ex hD
      refine ⟨D, _, rfl, .inl (SqL.of hacc), rfl, by simp [flatV], _, rfl, ?_⟩
      show if (!inV (V.str x) (acc.map V.str)) = true then _ else _
      rw [inV_str]
      have hxl6 := x6 _ _ hl5
      have hf6 := x6 _ _ hf5
      have hp6 : Paired (N2 H6) xs ns := L2.Paired.mapP hp5 fun _ _ h => N2.mono (Tx.of x6) h
      have e6 := e5'.ex x6
      refine if2 (fun c => ?_) (fun c => ?_)
      · refine ⟨_, rfl, (.inl ⟨rfl, _, SqL.of hxl6⟩), _, rfl, _, rfl, r, _, rfl, e6.row, by decide, by decide, fun H7 z e7 y0 y1 => ⟨z2, ?_⟩⟩
        intro p8 hp_p8
        generalize hG_p8 : upd _ p8 _ = H8
        obtain ⟨x8, g8⟩ := nw hp_p8 hG_p8
        have tx7 := e7.tx e6.row
        have e8 := (e6.trans e7).ex x8
        have hl8 := x8 _ _ (e7.kp _ _ nlr hxl6)
        have hf8 := x8 _ _ (e7.kp _ _ nfr hf6)
        have hlx := hp6.length
        refine ⟨l, xs, _, rfl, rfl, hl8, sz' (by omega), ?_⟩
        have txu : Tx H8 (upd H8 l (.lst (xs ++ [.ref p8]))) := (Kp.put (r := l)).tx hl8
        have hp8 : Paired (N2 (upd H8 l (.lst (xs ++ [.ref p8])))) xs ns := L2.Paired.mapP hp6 fun _ _ h => N2.mono ((tx7.trans (Tx.of x8)).trans txu) h
        refine ⟨_, _, _, _, ns ++ [(x, z)], rfl, upd_same, Paired.snoc ⟨p8, rfl, txu _ _ g8⟩ hp8, by rw [List.length_append, List.length_singleton]; omega, fun _ => by simp, ?_, (Dr.refl hR).own hl0 e8, ?_⟩
        · intro p hp
          rcases List.mem_append.mp hp with hp | hp
          · exact hok p hp
          · rw [List.mem_singleton.mp hp]
            exact ⟨hx, y0, by omega⟩
        · rw [upd_ne nlf.symm]
          exact hf8
      · refine ⟨_, _, _, xs, ns, rfl, hxl6, hp6, by omega, fun _ z => ?_, hok, e6, hf6⟩
        have hx2 : x ∈ acc := by simpa using c
        subst z
        rw [hpa] at hx2
        simp at hx2
  · rintro _ H4 ⟨v4, v5, v6, xs, ns, rfl, hxl, hpx, hln, hne, hok, e4, hf4⟩
    have hxs : xs.length ≤ 100 := by rw [hpx.length]; omega
    refine ⟨_, rfl, l, rfl, ⟨_, SqL.of hxl⟩, ?_⟩
    refine for_list (K := K) (a := l) (xs := xs) (fun i σ' H' => ∃ (v4 v5 v6 v7 v8 : Option V) (ys : List V) (pr : List Fun3), σ' = [some (.ref r), some (.bl b), some (.ref l), some (.ref fo), v4, v5, v6, v7, v8, none] ∧ H' l = some (.lst xs) ∧ Paired (N2 H') xs ns ∧ H' fo = some (.lst ys) ∧ F3s H' ys pr ∧ nsOf pr = ns.take i ∧ (∀ q ∈ pr, Wf ns q.2.1 q.2.2 .e ∧ q.2.2.wt ≤ 600 ∧ q.2.2.ht ≤ 12) ∧ Dr K sa r H H')
      ⟨_, _, _, _, _, [], [], rfl, hxl, hpx, hf4, .nil, by simp [nsOf], fun q hq => absurd hq List.not_mem_nil, e4⟩ ?_ ?_ ?_
    · rintro i _ H' _ ⟨_, _, _, _, _, _, _, _, h, _⟩
      exact SqL.of h
    · rintro i x _ H5 hi ⟨v4, v5, v6, v7, v8, ys, pr, rfl, hxl5, hp5, hfo5, hF, hns, hq, e5⟩
      obtain ⟨⟨fnm, mn⟩, hp1, a, rfl, ha⟩ := Paired.at_ hp5 hi
      have hb := hok _ (List.mem_of_getElem? hp1)
      refine ⟨a, _, rfl, SqT.of ha, rfl, _, _, rfl, _, _, rfl, rfl, ?_⟩
      refine ⟨_, rfl, _, rfl, _, rfl, _, rfl, r, l, ns, mn, 4, b, rfl, ⟨e5.row, ⟨xs, SqL.of hxl5, hxs, hp5⟩, nlr, hb.2.1, hb.2.2, fun p hp => (hok p hp).2⟩, by decide, by decide, fun H6 t v e6 D6 X6 => ?_⟩
      have e6' := e5.trans e6
      have tx6 := e6.tx e5.row
      have w1 := X6.wt
      have w2 := X6.ht
      have w3 : BB (4 : Int).toNat = 511 := by decide
      have w4 : BB (1 : Int).toNat = 7 := by decide
      refine ⟨fun σ' H' => ∃ (v8 : Option V) (v : V) (t : Tr), σ' = [some (.ref r), some (.bl b), some (.ref l), some (.ref fo), v4, some (.str fnm), some (.int mn), some v, v8, none] ∧ De H' t [v] ∧ Wf ns mn t .e ∧ t.wt ≤ 600 ∧ t.ht ≤ 12 ∧ Dr K sa r H5 H', ?_, ?_⟩
      · refine ⟨_, rfl, r, _, rfl, e6'.row, by decide, by decide, fun H7 k e7 k0 k1 => ⟨_, _, rfl, rfl, _, rfl, if2 (fun c => ?_) (fun c => ?_)⟩⟩
        · refine ⟨_, rfl, _, rfl, z0, ?_⟩
          have e7' := e6'.trans e7
          intro p hp_p
          generalize hG_p : upd _ p _ = H8
          obtain ⟨x8, g8⟩ := nw hp_p hG_p
          have e8' := e7'.ex x8
          refine ⟨r, p, [], mn, 1, false, rfl, ⟨e8'.row, ⟨[], SqL.of g8, by decide, .nil⟩, row_ne e7'.row hp_p, hb.2.1, hb.2.2, fun p hp => absurd hp List.not_mem_nil⟩, by decide, by decide, fun H9 t2 v2 e9 D9 X9 => ?_⟩
          have e9' := e8'.trans e9
          have u1 := X9.wt
          have u2 := X9.ht
          refine ⟨z2, ?_⟩
          intro p10 hp_p10
          generalize hG_p10 : upd _ p10 _ = H10
          obtain ⟨x10, g10⟩ := nw hp_p10 hG_p10
          refine ⟨_, rfl, _, rfl, z4, ?_⟩
          intro p11 hp_p11
          generalize hG_p11 : upd _ p11 _ = H11
          obtain ⟨x11, g11⟩ := nw hp_p11 hG_p11
          have tx : Tx H6 H11 := (((e7.tx e6'.row).trans (Tx.of x8)).trans (e9.tx e8'.row)).trans (Tx.of (x10.trans x11))
          refine ⟨_, _, .ife (.blw 1) t2 t, rfl, ⟨p11, .ref p10, v2, v, rfl, g11, ⟨p10, rfl, x11 _ _ g10⟩, D9.ex (x10.trans x11), D6.mono tx⟩, ⟨trivial, Wf.mono (fun p hp => absurd hp List.not_mem_nil) X9.wf, X6.wf⟩, ?_, ?_, ((((e6.trans e7).ex x8).trans e9).ex (x10.trans x11))⟩
          · show 2 + 0 + t2.wt + t.wt ≤ 600
            omega
          · show max 1 (max t2.ht t.ht) + 1 ≤ 12
            have : (4 : Int).toNat = 4 := rfl
            have : (1 : Int).toNat = 1 := rfl
            omega
        · refine ⟨_, v, t, rfl, D6.mono (e7.tx e6'.row), X6.wf, by omega, ?_, e6.trans e7⟩
          have : (4 : Int).toNat = 4 := rfl
          omega
      rintro _ H7 ⟨v8, v, t, rfl, D7, wf7, wt7, ht7, e7⟩
      have tx7 := e7.tx e5.row
      refine ⟨_, rfl, (.inl ⟨rfl, _, SqL.of (e7.kp _ _ nfr hfo5)⟩), _, rfl, _, rfl, _, rfl, z3, ?_⟩
      intro p8 hp_p8
      generalize hG_p8 : upd _ p8 _ = H8
      obtain ⟨x8, g8⟩ := nw hp_p8 hG_p8
      have hfo8 := x8 _ _ (e7.kp _ _ nfr hfo5)
      have hl8 := x8 _ _ (e7.kp _ _ nlr hxl5)
      have e8 := (e5.trans e7).ex x8
      have hly := hF.length
      have hlp : pr.length = min i ns.length := by
        have := congrArg List.length hns
        rw [nsOf, List.length_map, List.length_take] at this
        exact this
      have txu : Tx H8 (upd H8 fo (.lst (ys ++ [.ref p8]))) := (Kp.put (r := fo)).tx hfo8
      have tx := (tx7.trans (Tx.of x8)).trans txu
      refine ⟨fo, ys, _, rfl, rfl, hfo8, sz' (by omega), ?_⟩
      refine ⟨_, _, _, _, _, _, pr ++ [(fnm, mn, t)], rfl, ?_, L2.Paired.mapP hp5 fun _ _ h => N2.mono tx h, upd_same, Paired.snoc ⟨p8, v, rfl, txu _ _ g8, (D7.ex x8).mono txu⟩ (hF.mono tx), ?_, ?_, (Dr.refl hR).own hf0 e8⟩
      · rw [upd_ne nlf]
        exact hl8
      · rw [nsOf, List.map_append, ← nsOf, hns, take_snoc hp1] <;> rfl
      · intro q hq2
        rcases List.mem_append.mp hq2 with hq2 | hq2
        · exact hq q hq2
        · rw [List.mem_singleton.mp hq2]
          exact ⟨wf7, wt7, ht7⟩
    · rintro _ H5 ⟨v4, v5, v6, v7, v8, ys, pr, rfl, hxl5, hp5, hfo5, hF, hns, hq, e5⟩
      rw [List.take_of_length_le (Nat.le_of_eq hp5.length.symm)] at hns
      have hm : ∀ q ∈ pr, (q.1, q.2.1) ∈ ns := fun q hq => by
        rw [← hns]
        exact List.mem_map.mpr ⟨q, hq, rfl⟩
      refine ⟨_, rfl, fo, ys, rfl, .inl ⟨SqL.of hfo5, ?_⟩⟩
      intro p6 hp_p6
      generalize hG_p6 : upd _ p6 _ = H6
      obtain ⟨x6, g6⟩ := nw hp_p6 hG_p6
      refine q H6 p6 ys pr (e5.ex x6) g6 (hF.mono (Tx.of x6)) ⟨?_, ?_, ?_⟩
      · intro z
        subst z
        exact hne (by omega) hns.symm
      · have := congrArg List.length hns
        rw [nsOf, List.length_map] at this
        omega
      · intro q hq2
        have h1 := hok _ (hm q hq2)
        obtain ⟨h2, h3, h4⟩ := hq q hq2
        rw [hns]
        exact ⟨h1.1, h1.2.1, h1.2.2, h2, h3, h4⟩
end

end M10
set_option Elab.async false
set_option linter.all false
set_option maxRecDepth 100000
set_option maxHeartbeats 4000000
namespace M10
open PySem PySem.Spec PyProof.Rows L2 Evl
/-! ### a function's body, its number of late numbers -/
def atN (nm : Str) (pr : List Fun3) : List Fun3 := pr.filter fun q => decide (q.1 = nm)
theorem atN_ne {nm : Str} {m : Int} {pr : List Fun3} (h : (nm, m) ∈ nsOf pr) : ∃ q rs, atN nm pr = q :: rs := by
  obtain ⟨q, h1, h2⟩ := List.mem_map.mp h
  have h3 : q ∈ atN nm pr := List.mem_filter.mpr ⟨h1, decide_eq_true (congrArg Prod.fst h2)⟩
  cases e : atN nm pr with
  | nil => rw [e] at h3; cases h3
  | cons a b => exact ⟨a, b, rfl⟩
theorem atN_mem {nm : Str} {pr rs : List Fun3} {q : Fun3} (h : atN nm pr = q :: rs) : q ∈ pr ∧ q.1 = nm := by
  have h1 : q ∈ atN nm pr := by rw [h]; exact List.mem_cons_self
  obtain ⟨h2, h3⟩ := List.mem_filter.mp h1
  exact ⟨h2, of_decide_eq_true h3⟩
theorem atN_take {nm : Str} {pr : List Fun3} {i : Nat} {q : Fun3} (h : pr[i]? = some q) : atN nm (pr.take (i + 1)) = if q.1 = nm then atN nm (pr.take i) ++ [q] else atN nm (pr.take i) := by
  rw [take_snoc h, atN, List.filter_append]
  by_cases z : q.1 = nm
  · simp [z, atN]
  · simp [z, atN]
def spAt (g : Hp → V → Fun3 → Prop) : Sp := fun vs H Q _ => ∃ (p : Addr) (xs : List V) (pr rs : List Fun3) (q : Fun3) (nm : Str), vs = [.ref p, .str nm] ∧ H p = some (.tup xs) ∧ F3s H xs pr ∧ xs.length ≤ 1000 ∧ atN nm pr = q :: rs ∧ ∀ H' v, Ex H H' → g H' v q → Q v H'
abbrev spBody : Sp := spAt fun H v q => De H q.2.2 [v]
abbrev spLates : Sp := spAt fun H v q => v = .int q.2.1
section
variable {P : Program} {w : World} {K : PySem.W.Frag} {mg : Str → Option Value} {base : Heap}
theorem sc_law_body : FnScope ["_law_program_here", "_law_name_here", "_law_one", "_law_many", "_law_body_here"] ["_law_program_here", "_law_name_here"] (defScope s_law_body) := ⟨rfl, rfl, rfl, by decide +kernel, rfl, by decide +kernel, by decide +kernel⟩
theorem ok_l_body (D : Dd K mg "_law_body" s_law_body ["_law_program_here", "_law_name_here"]) (T : Tb K mg) : Dn P w K mg base L2.CX0 1 "_law_body" spBody := by
  refine D.ok sc_law_body (fun vs H Q E h => by obtain ⟨p, xs, pr, rs, q0, nm, rfl, _⟩ := h; rfl) (fun f cdv A outer s H vs Q E hr h => ?_)
  obtain ⟨p, xs, pr, rs, q0, nm, rfl, hp, hF, hx, hat, q⟩ := h
  refine ⟨_, (pss_one (ps_ret (pe_ix ix_list (pe_lc (own := [("_law_one", 2), ("_law_many", 3), ("_law_body_here", 4)]) (g := (gTup K 3 (gCons (gName 2) (gCons (gName 3) (gCons (gName 4) gNil))))) rfl sc_law_body.nd (pi_tup (pv 0)) (blkOk_by (N := ["_law_program_here", "_law_name_here", "_law_one", "_law_many", "_law_body_here"]) (sc := defScope s_law_body) (by decide +kernel)) (fun _ _ _ _ _ => (pg_tup rfl (pgs_cons (gnm 2 sc_law_body.nd) (pgs_cons (gnm 3 sc_law_body.nd) (pgs_cons (gnm 4 sc_law_body.nd) pgs_nil))))) (fun _ _ _ _ _ => pts_one (pt_cmpR op_eq (pv 2) (pv 1) (nomark _))) (fun _ _ _ _ _ => (pv 4))) pe_int (fun _ _ => rfl)))), ?_⟩
  refine ⟨_, rfl, p, rfl, ⟨_, SqT.of hp⟩, fun D hD => ?_⟩
  have npD : p ≠ D := ne_of_none hp hD
  refine lc_tup (K := K) (a := p) (xs := xs) (fun i H' => ∃ acc : List V, H' D = some (.lst acc) ∧ acc.length ≤ i ∧ Kp D H H' ∧ Paired (fun v q => (De H q.2.2 [v])) acc (atN nm (pr.take i))) ⟨[], upd_same, Nat.le_refl _, Kp.put, by simpa [atN] using Paired.nil⟩ ?_ ?_ ?_
  · rintro j H' _ ⟨acc, _, _, kp, _⟩
    exact SqT.of (kp.at_ npD hp)
  · rintro j y H' hj ⟨acc, hacc, hal, kp, hpa⟩
    obtain ⟨q1, hq1, a, v, rfl, ha, hd⟩ := Paired.at_ hF hj
    have tk := Tx.of (kp.ex hD)
    have et := atN_take (nm := nm) hq1
    have hj2 : j < xs.length := (List.getElem?_eq_some_iff.mp hj).1
    refine ⟨a, _, rfl, SqT.of (tk _ _ ha), rfl, _, _, rfl, _, _, rfl, _, _, rfl, rfl, rfl, _, rfl, _, rfl, rfl, _, rfl, if2 (fun c => ?_) (fun c => ?_)⟩
    · have c' : q1.1 = nm := V.str.inj (of_decide_eq_true c)
      rw [if_pos c'] at et
      refine ⟨_, rfl, acc, hacc, sz' (by omega), acc ++ [_], upd_same, by rw [List.length_append, List.length_singleton]; omega, kp.trans Kp.put, ?_⟩
      rw [et]
      exact Paired.snoc (by first | exact hd | rfl) hpa
    · have c' : ¬ q1.1 = nm := fun z => of_decide_eq_false c (congrArg V.str z)
      rw [if_neg c'] at et
      rw [et]
      exact ⟨acc, hacc, by omega, kp, hpa⟩
  · rintro H' ⟨acc, hacc, hal, kp, hpa⟩
    rw [List.take_of_length_le (Nat.le_of_eq hF.length.symm), hat] at hpa
    cases hpa with
    | cons h1 h2 =>
      exact ⟨D, _, _, _, rfl, rfl, SqL.of hacc, at0 _ _, q _ _ (kp.ex hD) (by first | exact De.ex h1 (kp.ex hD) | exact h1)⟩
theorem sc_law_lates : FnScope ["_law_program_here", "_law_name_here", "_law_one", "_law_many", "_law_body_here"] ["_law_program_here", "_law_name_here"] (defScope s_law_lates) := ⟨rfl, rfl, rfl, by decide +kernel, rfl, by decide +kernel, by decide +kernel⟩
theorem ok_l_lates (D : Dd K mg "_law_lates" s_law_lates ["_law_program_here", "_law_name_here"]) (T : Tb K mg) : Dn P w K mg base L2.CX0 1 "_law_lates" spLates := by
  refine D.ok sc_law_lates (fun vs H Q E h => by obtain ⟨p, xs, pr, rs, q0, nm, rfl, _⟩ := h; rfl) (fun f cdv A outer s H vs Q E hr h => ?_)
  obtain ⟨p, xs, pr, rs, q0, nm, rfl, hp, hF, hx, hat, q⟩ := h
  refine ⟨_, (pss_one (ps_ret (pe_ix ix_list (pe_lc (own := [("_law_one", 2), ("_law_many", 3), ("_law_body_here", 4)]) (g := (gTup K 3 (gCons (gName 2) (gCons (gName 3) (gCons (gName 4) gNil))))) rfl sc_law_lates.nd (pi_tup (pv 0)) (blkOk_by (N := ["_law_program_here", "_law_name_here", "_law_one", "_law_many", "_law_body_here"]) (sc := defScope s_law_lates) (by decide +kernel)) (fun _ _ _ _ _ => (pg_tup rfl (pgs_cons (gnm 2 sc_law_lates.nd) (pgs_cons (gnm 3 sc_law_lates.nd) (pgs_cons (gnm 4 sc_law_lates.nd) pgs_nil))))) (fun _ _ _ _ _ => pts_one (pt_cmpR op_eq (pv 2) (pv 1) (nomark _))) (fun _ _ _ _ _ => (pv 3))) pe_int (fun _ _ => rfl)))), ?_⟩
  refine ⟨_, rfl, p, rfl, ⟨_, SqT.of hp⟩, fun D hD => ?_⟩
  have npD : p ≠ D := ne_of_none hp hD
  refine lc_tup (K := K) (a := p) (xs := xs) (fun i H' => ∃ acc : List V, H' D = some (.lst acc) ∧ acc.length ≤ i ∧ Kp D H H' ∧ Paired (fun v q => (v = V.int q.2.1)) acc (atN nm (pr.take i))) ⟨[], upd_same, Nat.le_refl _, Kp.put, by simpa [atN] using Paired.nil⟩ ?_ ?_ ?_
  · rintro j H' _ ⟨acc, _, _, kp, _⟩
    exact SqT.of (kp.at_ npD hp)
  · rintro j y H' hj ⟨acc, hacc, hal, kp, hpa⟩
    obtain ⟨q1, hq1, a, v, rfl, ha, hd⟩ := Paired.at_ hF hj
    have tk := Tx.of (kp.ex hD)
    have et := atN_take (nm := nm) hq1
    have hj2 : j < xs.length := (List.getElem?_eq_some_iff.mp hj).1
    refine ⟨a, _, rfl, SqT.of (tk _ _ ha), rfl, _, _, rfl, _, _, rfl, _, _, rfl, rfl, rfl, _, rfl, _, rfl, rfl, _, rfl, if2 (fun c => ?_) (fun c => ?_)⟩
    · have c' : q1.1 = nm := V.str.inj (of_decide_eq_true c)
      rw [if_pos c'] at et
      refine ⟨_, rfl, acc, hacc, sz' (by omega), acc ++ [_], upd_same, by rw [List.length_append, List.length_singleton]; omega, kp.trans Kp.put, ?_⟩
      rw [et]
      exact Paired.snoc (by first | exact hd | rfl) hpa
    · have c' : ¬ q1.1 = nm := fun z => of_decide_eq_false c (congrArg V.str z)
      rw [if_neg c'] at et
      rw [et]
      exact ⟨acc, hacc, by omega, kp, hpa⟩
  · rintro H' ⟨acc, hacc, hal, kp, hpa⟩
    rw [List.take_of_length_le (Nat.le_of_eq hF.length.symm), hat] at hpa
    cases hpa with
    | cons h1 h2 =>
      exact ⟨D, _, _, _, rfl, rfl, SqL.of hacc, at0 _ _, q _ _ (kp.ex hD) (by first | exact De.ex h1 (kp.ex hD) | exact h1)⟩
end

end M10
set_option Elab.async false
set_option linter.all false
set_option maxRecDepth 100000
set_option maxHeartbeats 4000000
namespace M10
open PySem PySem.Spec PyProof.Rows L2 Evl
/-! ### what staging leaves: plain trees -/
/-- a plain expression (e), test (t), arguments (a); its calls' names keep R -/
def Pf (R : Str → Prop) : Tr → Fl → Prop
  | .num n, .e => 0 ≤ n ∧ n ≤ TOP
  | .late i, .e => 0 ≤ i ∧ i ≤ 3
  | .two k a b, .e => k ≠ .less ∧ Pf R a .e ∧ Pf R b .e
  | .two k a b, .t => k = .less ∧ Pf R a .e ∧ Pf R b .e
  | .ife t a b, .e => Pf R t .t ∧ Pf R a .e ∧ Pf R b .e
  | .pcall f as, .e => R f ∧ Pf R as .a
  | .nil, .a => True
  | .cons a r, .a => Pf R a .e ∧ Pf R r .a
  | _, _ => False
theorem Pf.mono {R R' : Str → Prop} : ∀ {t : Tr} {f : Fl}, (∀ x ∈ t.cns, R x → R' x) → Pf R t f → Pf R' t f
  | .num n, .e, _, w => w
  | .late i, .e, _, w => w
  | .two k a b, .e, h, ⟨k0, h1, h2⟩ => ⟨k0, Pf.mono (f := .e) (fun x m => h x (List.mem_append_left _ m)) h1, Pf.mono (f := .e) (fun x m => h x (List.mem_append_right _ m)) h2⟩
  | .two k a b, .t, h, ⟨k0, h1, h2⟩ => ⟨k0, Pf.mono (f := .e) (fun x m => h x (List.mem_append_left _ m)) h1, Pf.mono (f := .e) (fun x m => h x (List.mem_append_right _ m)) h2⟩
  | .ife t a b, .e, h, ⟨h0, h1, h2⟩ => ⟨Pf.mono (f := .t) (fun x m => h x (List.mem_append_left _ m)) h0, Pf.mono (f := .e) (fun x m => h x (List.mem_append_right _ (List.mem_append_left _ m))) h1,
      Pf.mono (f := .e) (fun x m => h x (List.mem_append_right _ (List.mem_append_right _ m))) h2⟩
  | .pcall f as, .e, h, ⟨h1, h2⟩ => ⟨h f List.mem_cons_self h1, Pf.mono (f := .a) (fun x m => h x (List.mem_cons_of_mem _ m)) h2⟩
  | .nil, .a, _, w => w
  | .cons a r, .a, h, ⟨h1, h2⟩ => ⟨Pf.mono (f := .e) (fun x m => h x (List.mem_append_left _ m)) h1, Pf.mono (f := .a) (fun x m => h x (List.mem_append_right _ m)) h2⟩
theorem Pf.of_cns {R : Str → Prop} : ∀ {t : Tr} {f : Fl}, Pf R t f → ∀ x ∈ t.cns, R x
  | .num n, .e, _ => fun x hx => absurd hx List.not_mem_nil
  | .late i, .e, _ => fun x hx => absurd hx List.not_mem_nil
  | .two k a b, .e, ⟨_, h1, h2⟩ => fun x hx => (List.mem_append.mp hx).elim (Pf.of_cns (f := .e) h1 x) (Pf.of_cns (f := .e) h2 x)
  | .two k a b, .t, ⟨_, h1, h2⟩ => fun x hx => (List.mem_append.mp hx).elim (Pf.of_cns (f := .e) h1 x) (Pf.of_cns (f := .e) h2 x)
  | .ife t a b, .e, ⟨h0, h1, h2⟩ => fun x hx => (List.mem_append.mp hx).elim (Pf.of_cns (f := .t) h0 x) fun hx => (List.mem_append.mp hx).elim (Pf.of_cns (f := .e) h1 x) (Pf.of_cns (f := .e) h2 x)
  | .pcall f as, .e, ⟨h1, h2⟩ => fun x hx => (List.mem_cons.mp hx).elim (fun e => e ▸ h1) (Pf.of_cns (f := .a) h2 x)
  | .nil, .a, _ => fun x hx => absurd hx List.not_mem_nil
  | .cons a r, .a, ⟨h1, h2⟩ => fun x hx => (List.mem_append.mp hx).elim (Pf.of_cns (f := .e) h1 x) (Pf.of_cns (f := .a) h2 x)
/-- the names that are called at an early number k -/
def RR (ns : List (Str × Int)) (k : Int) (x : Str) : Prop := ∃ f m j, x = nmk f j ∧ (f, m) ∈ ns ∧ 0 ≤ j ∧ j ≤ k + 5
structure LK (ns : List (Str × Int)) (k : Int) (t t' : Tr) (f : Fl) : Prop where
  pf : Pf (RR ns k) t' f
  wt : t'.wt ≤ t.wt
  ht : t'.ht ≤ t.ht
  ear : t.ear = true → f = .e → ∃ m, t' = .num m ∧ 0 ≤ m ∧ m ≤ TOP
theorem mvd_ok {mk : Str} {mc k : Int} (h : MvOk mk mc) (hk : 0 ≤ k) : 0 ≤ mvd mk mc k ∧ mvd mk mc k ≤ k + 5 := by
  unfold mvd
  rcases h with ⟨rfl, h1, h2⟩ | ⟨rfl, h1, h2⟩
  · rw [if_pos rfl]
    omega
  · rw [if_neg (by decide)]
    omega
theorem TOP40 : (40 : Int) ≤ TOP := by decide
theorem left_ok {ns : List (Str × Int)} {L k : Int} (hL : L ≤ 2) (hk : 0 ≤ k) (hk2 : k ≤ TOP) : ∀ {t : Tr} {f : Fl}, Wf ns L t f → f ≠ .t → LK ns k t (t.left k) f
  | .num n, .e, ⟨h1, h2⟩, _ => ⟨⟨h1, by show n ≤ TOP; have := TOP40; omega⟩, Nat.le_refl _, Nat.le_refl _, fun _ _ => ⟨n, rfl, h1, by have := TOP40; omega⟩⟩
  | .early, .e, _, _ => ⟨⟨hk, hk2⟩, Nat.le_refl _, Nat.le_refl _, fun _ _ => ⟨k, rfl, hk, hk2⟩⟩
  | .late i, .e, ⟨h1, h2⟩, _ => ⟨⟨h1, by omega⟩, Nat.le_refl _, Nat.le_refl _, fun z => by cases z⟩
  | .two q a b, .e, ⟨k0, h1, h2⟩, _ => by
    have i1 := left_ok hL hk hk2 h1 (by simp)
    have i2 := left_ok hL hk hk2 h2 (by simp)
    have j1 := i1.wt
    have j2 := i2.wt
    have j3 := i1.ht
    have j4 := i2.ht
    have hw : (Tr.two q a b).wt = 1 + a.wt + b.wt := rfl
    have hh : (Tr.two q a b).ht = max a.ht b.ht + 1 := rfl
    have w' : ∀ x y, (Tr.two q x y).wt = 1 + x.wt + y.wt := fun _ _ => rfl
    have h' : ∀ x y, (Tr.two q x y).ht = max x.ht y.ht + 1 := fun _ _ => rfl
    by_cases e : (Tr.two q a b).ear = true
    · obtain ⟨e1, e2⟩ := Bool.and_eq_true_iff.mp (show (a.ear && b.ear) = true from e)
      obtain ⟨m, hm, m0, m1⟩ := i1.ear e1 rfl
      obtain ⟨n, hn, n0, n1⟩ := i2.ear e2 rfl
      have el : (Tr.two q a b).left k = .num (wk q m n) := by rw [Tr.left, if_pos e, hm, hn]
      rw [el]
      have hwk := wk_top (k := q) m0 n0 m1
      exact ⟨hwk, by rw [hw]; show 1 ≤ _; omega, by rw [hh]; show 1 ≤ _; omega, fun _ _ => ⟨_, rfl, hwk⟩⟩
    · have el : (Tr.two q a b).left k = .two q (a.left k) (b.left k) := by rw [Tr.left, if_neg e]
      rw [el]
      exact ⟨⟨k0, i1.pf, i2.pf⟩, by rw [hw, w']; omega, by rw [hh, h']; omega, fun z => absurd z e⟩
  | .ife (.blw c) a b, .e, ⟨h0, h1, h2⟩, _ => by
    have i1 := left_ok hL hk hk2 h1 (by simp)
    have i2 := left_ok hL hk hk2 h2 (by simp)
    have j1 := i1.wt
    have j2 := i2.wt
    have j3 := i1.ht
    have j4 := i2.ht
    have hw : (Tr.ife (.blw c) a b).wt = 2 + 0 + a.wt + b.wt := rfl
    have hh : (Tr.ife (.blw c) a b).ht = max 1 (max a.ht b.ht) + 1 := rfl
    have he : (Tr.ife (.blw c) a b).ear = (true && (a.ear && b.ear)) := rfl
    show LK ns k _ (if k < c then a.left k else b.left k) _
    split
    · refine ⟨i1.pf, by omega, by omega, fun z => i1.ear ?_⟩
      rw [he] at z
      simp at z
      exact z.1
    · refine ⟨i2.pf, by omega, by omega, fun z => i2.ear ?_⟩
      rw [he] at z
      simp at z
      exact z.2
  | .ife (.rst m r) a b, .e, ⟨h0, h1, h2⟩, _ => by
    have i1 := left_ok hL hk hk2 h1 (by simp)
    have i2 := left_ok hL hk hk2 h2 (by simp)
    have j1 := i1.wt
    have j2 := i2.wt
    have j3 := i1.ht
    have j4 := i2.ht
    have hw : (Tr.ife (.rst m r) a b).wt = 2 + 0 + a.wt + b.wt := rfl
    have hh : (Tr.ife (.rst m r) a b).ht = max 1 (max a.ht b.ht) + 1 := rfl
    have he : (Tr.ife (.rst m r) a b).ear = (true && (a.ear && b.ear)) := rfl
    show LK ns k _ (if k % m = r then a.left k else b.left k) _
    split
    · refine ⟨i1.pf, by omega, by omega, fun z => i1.ear ?_⟩
      rw [he] at z
      simp at z
      exact z.1
    · refine ⟨i2.pf, by omega, by omega, fun z => i2.ear ?_⟩
      rw [he] at z
      simp at z
      exact z.2
  | .ife (.two .less x y) a b, .e, ⟨⟨_, hn, hx, hy⟩, h1, h2⟩, _ => by
    have i1 := left_ok hL hk hk2 h1 (by simp)
    have i2 := left_ok hL hk hk2 h2 (by simp)
    have i3 := left_ok hL hk hk2 hx (by simp)
    have i4 := left_ok hL hk hk2 hy (by simp)
    have j1 := i1.wt
    have j2 := i2.wt
    have j3 := i1.ht
    have j4 := i2.ht
    have j5 := i3.wt
    have j6 := i4.wt
    have j7 := i3.ht
    have j8 := i4.ht
    have hw : ∀ x y a b, (Tr.ife (.two .less x y) a b).wt = 2 + (1 + x.wt + y.wt) + a.wt + b.wt := fun _ _ _ _ => rfl
    have hh : ∀ x y a b, (Tr.ife (.two .less x y) a b).ht = max (max x.ht y.ht + 1) (max a.ht b.ht) + 1 := fun _ _ _ _ => rfl
    have he : (Tr.ife (.two .less x y) a b).ear = ((x.ear && y.ear) && (a.ear && b.ear)) := rfl
    show LK ns k _ (.ife (.two .less (x.left k) (y.left k)) (a.left k) (b.left k)) _
    refine ⟨⟨⟨rfl, i3.pf, i4.pf⟩, i1.pf, i2.pf⟩, by rw [hw, hw]; omega, by rw [hh, hh]; omega, fun z => ?_⟩
    rw [he, hn] at z
    cases z
  | .call f mk mc as, .e, ⟨⟨m, hm⟩, hmv, h2⟩, _ => by
    have i1 := left_ok hL hk hk2 h2 (by simp)
    have j1 := i1.wt
    have j2 := i1.ht
    have hw : (Tr.call f mk mc as).wt = 1 + as.wt := rfl
    have hh : (Tr.call f mk mc as).ht = as.ht + 1 := rfl
    have hj := mvd_ok hmv hk
    exact ⟨⟨⟨f, m, _, rfl, hm, hj⟩, i1.pf⟩, by rw [hw]; show 1 + (as.left k).wt ≤ _; omega, by rw [hh]; show (as.left k).ht + 1 ≤ _; omega, fun z => by cases z⟩
  | .nil, .a, _, _ => ⟨trivial, Nat.le_refl _, Nat.le_refl _, fun z => by cases z⟩
  | .cons a r, .a, ⟨h1, h2⟩, _ => by
    have i1 := left_ok hL hk hk2 h1 (by simp)
    have i2 := left_ok hL hk hk2 h2 (by simp)
    have j1 := i1.wt
    have j2 := i2.wt
    have j3 := i1.ht
    have j4 := i2.ht
    exact ⟨⟨i1.pf, i2.pf⟩, by show (a.left k).wt + (r.left k).wt ≤ a.wt + r.wt; omega, by show max (a.left k).ht (r.left k).ht ≤ max a.ht r.ht; omega, fun z => by cases z⟩
/-- arguments as a list -/
def mkA : List Tr → Tr
  | [] => .nil
  | t :: ts => .cons t (mkA ts)
theorem De.args {ns : List (Str × Int)} {L : Int} {H : Hp} : ∀ {as : Tr} {ys : List V}, De H as ys → Wf ns L as .a → ∃ ts, as = mkA ts ∧ Paired (fun y t => De H t [y]) ys ts ∧ ∀ t ∈ ts, Wf ns L t .e ∧ t.ht ≤ as.ht
  | .nil, ys, h, _ => by
    have e : ys = [] := h
    subst e
    exact ⟨[], rfl, .nil, fun t ht => absurd ht List.not_mem_nil⟩
  | .cons a r, _, ⟨u, us, rfl, h1, h2⟩, ⟨w1, w2⟩ => by
    obtain ⟨ts, e1, e2, e3⟩ := De.args h2 w2
    refine ⟨a :: ts, by rw [e1] <;> rfl, .cons h1 e2, fun t ht => ?_⟩
    have hh : (Tr.cons a r).ht = max a.ht r.ht := rfl
    rcases List.mem_cons.mp ht with e | ht
    · rw [e]
      exact ⟨w1, by omega⟩
    · have := e3 t ht
      exact ⟨this.1, by omega⟩
theorem De.argsP {R : Str → Prop} {H : Hp} : ∀ {as : Tr} {ys : List V}, De H as ys → Pf R as .a → ∃ ts, as = mkA ts ∧ Paired (fun y t => De H t [y]) ys ts ∧ ∀ t ∈ ts, Pf R t .e ∧ t.ht ≤ as.ht
  | .nil, ys, h, _ => by
    have e : ys = [] := h
    subst e
    exact ⟨[], rfl, .nil, fun t ht => absurd ht List.not_mem_nil⟩
  | .cons a r, _, ⟨u, us, rfl, h1, h2⟩, ⟨w1, w2⟩ => by
    obtain ⟨ts, e1, e2, e3⟩ := De.argsP h2 w2
    refine ⟨a :: ts, by rw [e1] <;> rfl, .cons h1 e2, fun t ht => ?_⟩
    have hh : (Tr.cons a r).ht = max a.ht r.ht := rfl
    rcases List.mem_cons.mp ht with e | ht
    · rw [e]
      exact ⟨w1, by omega⟩
    · have := e3 t ht
      exact ⟨this.1, by omega⟩
theorem De.mkA {H : Hp} : ∀ {ys : List V} {ts : List Tr}, Paired (fun y t => De H t [y]) ys ts → De H (mkA ts) ys
  | _, _, .nil => rfl
  | _, _, .cons r t => ⟨_, _, rfl, r, De.mkA t⟩
theorem mkA_left (k : Int) : ∀ ts : List Tr, (mkA ts).left k = mkA (ts.map (Tr.left k))
  | [] => rfl
  | t :: ts => by
    show Tr.cons (t.left k) ((mkA ts).left k) = _
    rw [mkA_left k ts] <;> rfl
/-! ### names with a number -/
theorem tlS (n : Nat) : TL.tl (Str.ofString (toString ((n : Nat) : Int))) = TL.numL n := TL.tl_num n
abbrev usc : Str := "_"
theorem tl_usc : TL.tl usc = [95] := by decide +kernel
theorem nm8_ok : ∀ f ∈ nm8, f.length ≤ 4 ∧ 95 ∉ TL.tl f := by decide +kernel
theorem num_len {k : Int} (h0 : 0 ≤ k) (h1 : k ≤ 1000000) : (Str.ofString (toString k)).length ≤ 7 := by
  obtain ⟨n, rfl⟩ := Int.eq_ofNat_of_zero_le h0
  rw [TL.len_tl, tlS]
  exact TL.numL_len (by decide) (by omega)
theorem nmk_len {f : Str} {k : Int} (hf : f ∈ nm8) (h0 : 0 ≤ k) (h1 : k ≤ 1000000) : (nmk f k).length ≤ 12 := by
  have e : (nmk f k).length = f.length + 1 + (Str.ofString (toString k)).length := by
    show (f ++ usc ++ Str.ofString (toString k)).length = _
    rw [TL.len_tl, TL.tl_append, TL.tl_append, List.length_append, List.length_append, tl_usc, ← TL.len_tl, ← TL.len_tl] <;> rfl
  have := num_len h0 h1
  have := (nm8_ok f hf).1
  omega
theorem nmk_split {f : Str} {k : Int} (hf : f ∈ nm8) (h0 : 0 ≤ k) : Txt.split (nmk f k) usc = [f, Str.ofString (toString k)] := by
  obtain ⟨n, rfl⟩ := Int.eq_ofNat_of_zero_le h0
  have h := TL.split_spl (nmk f (n : Int)) usc (by rw [tl_usc]; simp) (TL.kind_ok (by decide +kernel))
  refine TL.map_tl_inj (h.trans ?_)
  show TL.spl (TL.tl usc) 0 [] (TL.tl (f ++ usc ++ Str.ofString (toString (n : Int)))) = _
  rw [TL.tl_append, TL.tl_append, tl_usc, tlS, List.append_assoc]
  rw [show ([95] : List Nat) = 95 :: [] from rfl, TL.spl_part1 (nm8_ok f hf).2, TL.spl_last1 (TL.numL_free (.inr (by decide)))]
  simp only [List.map_cons, List.map_nil, List.nil_append, tlS]
theorem nmk_int {k : Int} (h0 : 0 ≤ k) (h1 : k ≤ 1000000) : PySem.intText? (Str.ofString (toString k)) = some k := by
  obtain ⟨n, rfl⟩ := Int.eq_ofNat_of_zero_le h0
  exact TL.int_num (Nat.le_trans (TL.numL_len (k := 7) (by decide) (by omega)) (by decide))

end M10
set_option Elab.async false
set_option linter.all false
set_option maxRecDepth 100000
set_option maxHeartbeats 4000000
namespace M10
open PySem PySem.Spec PyProof.Rows L2 Evl
theorem Wf.wt1 {ns : List (Str × Int)} {L : Int} {t : Tr} (h : Wf ns L t .e) : 1 ≤ t.wt := by
  cases t with
  | num n => exact Nat.le_refl 1
  | early => exact Nat.le_refl 1
  | late i => exact Nat.le_refl 1
  | two k a b => show 1 ≤ 1 + a.wt + b.wt; omega
  | ife t a b => show 1 ≤ 2 + t.wt + a.wt + b.wt; omega
  | call f mk mc as => show 1 ≤ 1 + as.wt; omega
  | blw c => exact h.elim
  | rst m r => exact h.elim
  | pcall f as => exact h.elim
  | nil => exact h.elim
  | cons a r => exact h.elim
theorem mkA_len : ∀ {ts : List Tr}, (∀ t ∈ ts, 1 ≤ t.wt) → ts.length ≤ (mkA ts).wt
  | [], _ => Nat.le_refl 0
  | t :: ts, h => by
    have h1 := h t List.mem_cons_self
    have h2 := mkA_len fun t ht => h t (List.mem_cons_of_mem _ ht)
    show ts.length + 1 ≤ t.wt + (mkA ts).wt
    omega
theorem mkA_mem : ∀ {ts : List Tr} {t : Tr}, t ∈ ts → t.wt ≤ (mkA ts).wt
  | u :: ts, t, h => by
    have e : (mkA (u :: ts)).wt = u.wt + (mkA ts).wt := rfl
    rcases List.mem_cons.mp h with h | h
    · rw [h]
      omega
    · have := mkA_mem h
      omega
def spLeft (n : Nat) : Sp := fun vs H Q _ => ∃ (t : Tr) (v : V) (k : Int) (ns : List (Str × Int)) (L : Int), vs = [v, .int k] ∧ De H t [v] ∧ Wf ns L t .e ∧ L ≤ 2 ∧ 0 ≤ k ∧ k ≤ 900000 ∧ (∀ p ∈ ns, p.1 ∈ nm8) ∧ t.wt ≤ 600 ∧ t.ht ≤ n ∧
  ∀ H' v', Ex H H' → De H' (t.left k) [v'] → Q v' H'
theorem k4_tin (k : K4) : inV (.str k.s) [.str "number", .str "late"] = false := by cases k <;> decide +kernel
theorem k4_early (k : K4) : decide (V.str k.s = V.str "early") = false := by cases k <;> decide +kernel
theorem k4_if (k : K4) : decide (V.str k.s = V.str "if") = false := by cases k <;> decide +kernel
theorem k4_call (k : K4) : decide (V.str k.s = V.str "call") = false := by cases k <;> decide +kernel
section
variable {P : Program} {w : World} {K : PySem.W.Frag} {mg : Str → Option Value} {base : Heap}
theorem sc_law_left : FnScope ["_law_one", "_law_early", "_law_test_here", "_law_name_here", "_law_first", "_law_second", "_law_part"] ["_law_one", "_law_early"] (defScope s_law_left) := ⟨rfl, rfl, rfl, by decide +kernel, rfl, by decide +kernel, by decide +kernel⟩
theorem ok_l_left (D : Dd K mg "_law_left" s_law_left ["_law_one", "_law_early"]) (T : Tb K mg) {n : Nat} (hn : n ≤ 29) (c_l_holds : Dn P w K mg base L2.CX0 1 "_law_holds" spHolds) (c_l_moved : Dn P w K mg base L2.CX0 1 "_law_moved" spMoved)
    (c_l_worked : Dn P w K mg base L2.CX0 1 "_law_worked" spWorked) (c_l_is_early : Dn P w K mg base L2.CX0 30 "_law_is_early" (spEar 30)) (c_l_left : Dn P w K mg base L2.CX0 (30 + n) "_law_left" (spLeft n)) :
    Dn P w K mg base L2.CX0 (30 + n + 1) "_law_left" (spLeft (n + 1)) := by
  refine D.ok sc_law_left (fun vs H Q E h => by obtain ⟨t, v, k, ns, L, rfl, _⟩ := h; rfl) (fun f cdv A outer s H vs Q E hr h => ?_)
  obtain ⟨t, v, k, ns, L, rfl, hd, hw, hL, k0, k1, hn8, hwt, hh, q⟩ := h
  refine ⟨_, (pss_cons (ps_if (pt_cmpR op_in_seq (pe_ix ix_tup (pv 0) pe_int (fun _ _ => rfl)) (pe_lst (pa_cons pe_str (pa_cons pe_str pa_nil))) rfl) (pss_one (ps_ret (pv 0))) pss_nil)
    (pss_cons (ps_if (pt_cmpR op_eq (pe_ix ix_tup (pv 0) pe_int (fun _ _ => rfl)) pe_str (nomark _)) (pss_one (ps_ret (pe_tup (pa_cons pe_str (pa_cons (pv 1) pa_nil))))) pss_nil)
    (pss_cons (ps_if (PW.pt (pw_and (pt_cmpR op_eq (pe_ix ix_tup (pv 0) pe_int (fun _ _ => rfl)) pe_str (nomark _)) (pw_and1 (pt_cmpR op_ne (pe_ix ix_tup (pe_ix ix_tup (pv 0) pe_int (fun _ _ => rfl)) pe_int (fun _ _ => rfl)) pe_str (nomark _))))) (pss_one (ps_ret (pe_c0 c_l_left hr (pa_cons (pe_ifExp (pt_val (pe_c0 c_l_holds hr (pa_cons (pe_ix ix_tup (pv 0) pe_int (fun _ _ => rfl)) (pa_cons (pv 1) pa_nil)))) (pe_ix ix_tup (pv 0) pe_int (fun _ _ => rfl)) (pe_ix ix_tup (pv 0) pe_int (fun _ _ => rfl))) (pa_cons (pv 1) pa_nil))))) pss_nil)
    (pss_cons (ps_if (pt_cmpR op_eq (pe_ix ix_tup (pv 0) pe_int (fun _ _ => rfl)) pe_str (nomark _)) (pss_cons (sset 2 sc_law_left.nd (pe_tup (pa_cons pe_str (pa_cons (pe_c0 c_l_left hr (pa_cons (pe_ix ix_tup (pe_ix ix_tup (pv 0) pe_int (fun _ _ => rfl)) pe_int (fun _ _ => rfl)) (pa_cons (pv 1) pa_nil))) (pa_cons (pe_c0 c_l_left hr (pa_cons (pe_ix ix_tup (pe_ix ix_tup (pv 0) pe_int (fun _ _ => rfl)) pe_int (fun _ _ => rfl)) (pa_cons (pv 1) pa_nil))) pa_nil)))))
    (pss_one (ps_ret (pe_tup (pa_cons pe_str (pa_cons (pv 2) (pa_cons (pe_c0 c_l_left hr (pa_cons (pe_ix ix_tup (pv 0) pe_int (fun _ _ => rfl)) (pa_cons (pv 1) pa_nil))) (pa_cons (pe_c0 c_l_left hr (pa_cons (pe_ix ix_tup (pv 0) pe_int (fun _ _ => rfl)) (pa_cons (pv 1) pa_nil))) pa_nil)))))))) pss_nil)
    (pss_cons (ps_if (pt_cmpR op_eq (pe_ix ix_tup (pv 0) pe_int (fun _ _ => rfl)) pe_str (nomark _)) (pss_cons (sset 3 sc_law_left.nd (pe_op op_add_str (pe_op op_add_str (pe_ix ix_tup (pv 0) pe_int (fun _ _ => rfl)) pe_str) (pct call_str_int T.str (pa_cons (pe_c0 c_l_moved hr (pa_cons (pe_ix ix_tup (pv 0) pe_int (fun _ _ => rfl)) (pa_cons (pv 1) pa_nil))) pa_nil))))
    (pss_one (ps_ret (pe_tup (pa_cons pe_str (pa_cons (pv 3) (pa_cons (pct call_tuple_of T.tuple (pa_cons (pe_lc (own := [("_law_part", 6)]) (g := (gName 6)) (tt := tYes) rfl sc_law_left.nd (pi_tup (pe_ix ix_tup (pv 0) pe_int (fun _ _ => rfl))) (blkOk_by (N := ["_law_one", "_law_early", "_law_test_here", "_law_name_here", "_law_first", "_law_second", "_law_part"]) (sc := defScope s_law_left) (by decide +kernel)) (fun _ _ _ _ _ => (gnm 6 sc_law_left.nd)) (fun _ _ _ _ _ => pts_nil) (fun _ _ _ _ _ => (pe_c0 c_l_left hr (pa_cons (pv 6) (pa_cons (pv 1) pa_nil))))) pa_nil)) pa_nil))))))) pss_nil)
    (pss_cons (ps_par (i := 4) (j := 5) (by rfl) sc_law_left.nd rfl rfl (by decide) rfl rfl (pa_cons (pe_c0 c_l_left hr (pa_cons (pe_ix ix_tup (pv 0) pe_int (fun _ _ => rfl)) (pa_cons (pv 1) pa_nil))) (pa_cons (pe_c0 c_l_left hr (pa_cons (pe_ix ix_tup (pv 0) pe_int (fun _ _ => rfl)) (pa_cons (pv 1) pa_nil))) pa_nil)) (by rfl))
    (pss_cons (ps_if (pt_val (pe_c0 c_l_is_early hr (pa_cons (pv 0) pa_nil))) (pss_one (ps_ret (pe_tup (pa_cons pe_str (pa_cons (pe_c0 c_l_worked hr (pa_cons (pe_ix ix_tup (pv 0) pe_int (fun _ _ => rfl)) (pa_cons (pe_ix ix_tup (pv 4) pe_int (fun _ _ => rfl)) (pa_cons (pe_ix ix_tup (pv 5) pe_int (fun _ _ => rfl)) pa_nil)))) pa_nil))))) pss_nil)
    (pss_one (ps_ret (pe_tup (pa_cons (pe_ix ix_tup (pv 0) pe_int (fun _ _ => rfl)) (pa_cons (pv 4) (pa_cons (pv 5) pa_nil))))))))))))), ?_⟩
  have kT : k ≤ TOP := Int.le_trans k1 (by decide)
  have part : ∀ (H2 : Hp) (t2 : Tr) (v2 : V) (Q2 : VK), De H2 t2 [v2] → Wf ns L t2 .e → t2.wt ≤ 600 → t2.ht ≤ n → (∀ H' v', Ex H2 H' → De H' (t2.left k) [v'] → Q2 v' H') → spLeft n [v2, .int k] H2 Q2 L2.E0 := fun H2 t2 v2 Q2 h1 h2 h3 h4 h5 =>
    ⟨t2, v2, k, ns, L, rfl, h1, h2, hL, k0, k1, hn8, h3, h4, h5⟩
  cases t with
  | num m =>
    obtain ⟨a, e, ha⟩ := hd
    injection e with e _
    subst e
    refine ⟨_, rfl, a, _, _, _, rfl, rfl, SqT.of ha, rfl, z2, ?_⟩
    intro p1 hp_p1
    generalize hG_p1 : upd _ p1 _ = H1
    obtain ⟨x1, g_p1⟩ := nw hp_p1 hG_p1
    refine ⟨p1, _, rfl, .inl (SqL.of g_p1), rfl, by simp [flatV], _, rfl, ifT (by decide +kernel) ?_⟩
    exact ⟨_, rfl, q _ _ x1 ⟨a, rfl, x1 _ _ ha⟩⟩
  | late m =>
    obtain ⟨a, e, ha⟩ := hd
    injection e with e _
    subst e
    refine ⟨_, rfl, a, _, _, _, rfl, rfl, SqT.of ha, rfl, z2, ?_⟩
    intro p1 hp_p1
    generalize hG_p1 : upd _ p1 _ = H1
    obtain ⟨x1, g_p1⟩ := nw hp_p1 hG_p1
    refine ⟨p1, _, rfl, .inl (SqL.of g_p1), rfl, by simp [flatV], _, rfl, ifT (by decide +kernel) ?_⟩
    exact ⟨_, rfl, q _ _ x1 ⟨a, rfl, x1 _ _ ha⟩⟩
  | early =>
    obtain ⟨a, e, ha⟩ := hd
    injection e with e _
    subst e
    refine ⟨_, rfl, a, _, _, _, rfl, rfl, SqT.of ha, rfl, z2, ?_⟩
    intro p1 hp_p1
    generalize hG_p1 : upd _ p1 _ = H1
    obtain ⟨x1, g_p1⟩ := nw hp_p1 hG_p1
    refine ⟨p1, _, rfl, .inl (SqL.of g_p1), rfl, by simp [flatV], _, rfl, ifF (by decide +kernel) ?_⟩
    refine ⟨_, rfl, a, _, _, _, rfl, rfl, SqT.of (x1 _ _ ha), rfl, rfl, _, rfl, ifT (by decide +kernel) ?_⟩
    refine ⟨_, rfl, z2, ?_⟩
    intro p2 hp_p2
    generalize hG_p2 : upd _ p2 _ = H2
    obtain ⟨x2, g2⟩ := nw hp_p2 hG_p2
    exact q _ _ (x1.trans x2) ⟨p2, rfl, g2⟩
  | two k4 t1 t2 =>
    have LK := left_ok hL k0 kT hw (by simp)
    obtain ⟨a, u, v, e, ha, d1, d2⟩ := hd
    injection e with e _
    subst e
    obtain ⟨w0, w1, w2⟩ := id hw
    have hw2 : (Tr.two k4 t1 t2).wt = 1 + t1.wt + t2.wt := rfl
    have hh2 : (Tr.two k4 t1 t2).ht = max t1.ht t2.ht + 1 := rfl
    refine ⟨_, rfl, a, _, _, _, rfl, rfl, SqT.of ha, rfl, z2, ?_⟩
    intro p1 hp_p1
    generalize hG_p1 : upd _ p1 _ = H1
    obtain ⟨x1, g_p1⟩ := nw hp_p1 hG_p1
    refine ⟨p1, _, rfl, .inl (SqL.of g_p1), rfl, by simp [flatV], _, rfl, ifF (k4_tin _) ?_⟩
    have ha1 := x1 _ _ ha
    refine ⟨_, rfl, a, _, _, _, rfl, rfl, SqT.of (ha1), rfl, rfl, _, rfl, ifF (k4_early _) ?_⟩
    refine ⟨_, rfl, a, _, _, _, rfl, rfl, SqT.of (ha1), rfl, rfl, _, rfl, ifF (k4_if _) ?_⟩
    refine ⟨_, rfl, a, _, _, _, rfl, rfl, SqT.of (ha1), rfl, rfl, _, rfl, ifF (k4_if _) ?_⟩
    refine ⟨_, rfl, a, _, _, _, rfl, rfl, SqT.of (ha1), rfl, rfl, _, rfl, ifF (k4_call _) ?_⟩
    refine ⟨_, rfl, a, _, _, _, rfl, rfl, SqT.of ha1, rfl, _, rfl, part _ t1 _ _ (d1.ex x1) w1 (by omega) (by omega) fun H2 v1 x2 D1 => ?_⟩
    have x12 := x1.trans x2
    refine ⟨_, rfl, a, _, _, _, rfl, rfl, SqT.of (x2 _ _ ha1), rfl, _, rfl, part _ t2 _ _ (d2.ex x12) w2 (by omega) (by omega) fun H3 v2 x3 D2 => ⟨_, _, rfl, ?_⟩⟩
    have x13 := x12.trans x3
    have ha3 := x13 _ _ ha
    refine ⟨_, rfl, .two k4 t1 t2, _, rfl, ⟨a, u, v, rfl, ha3, d1.ex x13, d2.ex x13⟩, hw.okE, by omega, fun H4 x4 => ⟨_, rfl, if2 (fun c => ?_) (fun c => ?_)⟩⟩
    · obtain ⟨c1, c2⟩ := Bool.and_eq_true_iff.mp (show (t1.ear && t2.ear) = true from c)
      obtain ⟨m1, e1, m0, mT⟩ := (left_ok hL k0 kT w1 (by simp)).ear c1 rfl
      obtain ⟨m2, e2, n0, nT⟩ := (left_ok hL k0 kT w2 (by simp)).ear c2 rfl
      have el : (Tr.two k4 t1 t2).left k = .num (wk k4 m1 m2) := by rw [Tr.left, if_pos c, e1, e2]
      rw [e1] at D1
      rw [e2] at D2
      obtain ⟨b1, z1, h1⟩ := D1
      obtain ⟨b2, z2', h2⟩ := D2
      injection z1 with z1 _
      injection z2' with z2' _
      subst z1 z2'
      refine ⟨_, rfl, a, _, _, _, rfl, rfl, SqT.of (x4 _ _ ha3), rfl, _, rfl, b1, _, _, _, rfl, rfl, SqT.of (x4 _ _ (x3 _ _ h1)), rfl, _, rfl, b2, _, _, _, rfl, rfl, SqT.of (x4 _ _ h2), rfl, k4, m1, m2, rfl, m0, mT, n0, nT, z2, ?_⟩
      intro p5 hp_p5
      generalize hG_p5 : upd _ p5 _ = H5
      obtain ⟨x5, g5⟩ := nw hp_p5 hG_p5
      refine q _ _ ((x13.trans x4).trans x5) ?_
      rw [el]
      exact ⟨p5, rfl, g5⟩
    · have el : (Tr.two k4 t1 t2).left k = .two k4 (t1.left k) (t2.left k) := by rw [Tr.left, if_neg (by rw [c]; exact Bool.false_ne_true)]
      refine ⟨_, rfl, a, _, _, _, rfl, rfl, SqT.of (x4 _ _ ha3), rfl, _, rfl, _, rfl, z3, ?_⟩
      intro p5 hp_p5
      generalize hG_p5 : upd _ p5 _ = H5
      obtain ⟨x5, g5⟩ := nw hp_p5 hG_p5
      refine q _ _ ((x13.trans x4).trans x5) ?_
      rw [el]
      exact ⟨p5, _, _, rfl, g5, D1.ex ((x3.trans x4).trans x5), D2.ex (x4.trans x5)⟩
  | ife t0 t1 t2 =>
    obtain ⟨a, w, u, v, e, ha, d0, d1, d2⟩ := hd
    injection e with e _
    subst e
    obtain ⟨w0, w1, w2⟩ := id hw
    have hw2 : (Tr.ife t0 t1 t2).wt = 2 + t0.wt + t1.wt + t2.wt := rfl
    have hh2 : (Tr.ife t0 t1 t2).ht = max t0.ht (max t1.ht t2.ht) + 1 := rfl
    refine ⟨_, rfl, a, _, _, _, rfl, rfl, SqT.of ha, rfl, z2, ?_⟩
    intro p1 hp_p1
    generalize hG_p1 : upd _ p1 _ = H1
    obtain ⟨x1, g_p1⟩ := nw hp_p1 hG_p1
    refine ⟨p1, _, rfl, .inl (SqL.of g_p1), rfl, by simp [flatV], _, rfl, ifF (by decide +kernel) ?_⟩
    have ha1 := x1 _ _ ha
    refine ⟨_, rfl, a, _, _, _, rfl, rfl, SqT.of (ha1), rfl, rfl, _, rfl, ifF (by decide +kernel) ?_⟩
    refine ⟨_, rfl, a, _, _, _, rfl, rfl, SqT.of (ha1), rfl, rfl, _, rfl, ifT (by decide +kernel) ?_⟩
    -- a test of the early number
    cases t0 with
    | blw c =>
      obtain ⟨b, e, hb⟩ := id d0
      injection e with e _
      subst e
      refine ⟨_, rfl, a, _, _, _, rfl, rfl, SqT.of ha1, rfl, b, _, _, _, rfl, rfl, SqT.of (x1 _ _ hb), rfl, rfl, _, rfl, ifT (by decide +kernel) ?_⟩
      refine ⟨_, rfl, a, _, _, _, rfl, rfl, SqT.of ha1, rfl, _, rfl, .blw c, _, k, rfl, d0.ex x1, .inl ⟨c, rfl⟩, _, rfl, if2 (fun z => ?_) (fun z => ?_)⟩
      · have el : (Tr.ife (.blw c) t1 t2).left k = t1.left k := if_pos (of_decide_eq_true z)
        rw [el] at q
        exact ⟨_, rfl, a, _, _, _, rfl, rfl, SqT.of ha1, rfl, _, rfl, part _ t1 _ _ (d1.ex x1) w1 (by omega) (by omega) fun H2 v1 x2 D1 => q _ _ (x1.trans x2) D1⟩
      · have el : (Tr.ife (.blw c) t1 t2).left k = t2.left k := if_neg (of_decide_eq_false z)
        rw [el] at q
        exact ⟨_, rfl, a, _, _, _, rfl, rfl, SqT.of ha1, rfl, _, rfl, part _ t2 _ _ (d2.ex x1) w2 (by omega) (by omega) fun H2 v1 x2 D1 => q _ _ (x1.trans x2) D1⟩
    | rst m r =>
      obtain ⟨b, e, hb⟩ := id d0
      injection e with e _
      subst e
      refine ⟨_, rfl, a, _, _, _, rfl, rfl, SqT.of ha1, rfl, b, _, _, _, rfl, rfl, SqT.of (x1 _ _ hb), rfl, rfl, _, rfl, ifT (by decide +kernel) ?_⟩
      refine ⟨_, rfl, a, _, _, _, rfl, rfl, SqT.of ha1, rfl, _, rfl, .rst m r, _, k, rfl, d0.ex x1, .inr ⟨m, r, rfl, w0⟩, _, rfl, if2 (fun z => ?_) (fun z => ?_)⟩
      · have el : (Tr.ife (.rst m r) t1 t2).left k = t1.left k := if_pos (of_decide_eq_true z)
        rw [el] at q
        exact ⟨_, rfl, a, _, _, _, rfl, rfl, SqT.of ha1, rfl, _, rfl, part _ t1 _ _ (d1.ex x1) w1 (by omega) (by omega) fun H2 v1 x2 D1 => q _ _ (x1.trans x2) D1⟩
      · have el : (Tr.ife (.rst m r) t1 t2).left k = t2.left k := if_neg (of_decide_eq_false z)
        rw [el] at q
        exact ⟨_, rfl, a, _, _, _, rfl, rfl, SqT.of ha1, rfl, _, rfl, part _ t2 _ _ (d2.ex x1) w2 (by omega) (by omega) fun H2 v1 x2 D1 => q _ _ (x1.trans x2) D1⟩
    | two k4 tx ty =>
      obtain ⟨wk0, wke, wx, wy⟩ := w0
      subst wk0
      obtain ⟨b, ux, uy, e, hb, dx, dy⟩ := id d0
      injection e with e _
      subst e
      have hw3 : (Tr.two K4.less tx ty).wt = 1 + tx.wt + ty.wt := rfl
      have hh3 : (Tr.two K4.less tx ty).ht = max tx.ht ty.ht + 1 := rfl
      refine ⟨_, rfl, a, _, _, _, rfl, rfl, SqT.of ha1, rfl, b, _, _, _, rfl, rfl, SqT.of (x1 _ _ hb), rfl, rfl, _, rfl, ifF (by decide +kernel) ?_⟩
      refine ⟨_, rfl, a, _, _, _, rfl, rfl, SqT.of (ha1), rfl, rfl, _, rfl, ifT (by decide +kernel) ?_⟩
      refine ⟨_, rfl, a, _, _, _, rfl, rfl, SqT.of ha1, rfl, b, _, _, _, rfl, rfl, SqT.of (x1 _ _ hb), rfl, _, rfl, part _ tx _ _ (dx.ex x1) wx (by omega) (by omega) fun H2 v1 x2 D1 => ?_⟩
      have x12 := x1.trans x2
      refine ⟨_, rfl, a, _, _, _, rfl, rfl, SqT.of (x12 _ _ ha), rfl, b, _, _, _, rfl, rfl, SqT.of (x12 _ _ hb), rfl, _, rfl, part _ ty _ _ (dy.ex x12) wy (by omega) (by omega) fun H3 v2 x3 D2 => ⟨z3, ?_⟩⟩
      intro p4 hp_p4
      generalize hG_p4 : upd _ p4 _ = H4
      obtain ⟨x4, g4⟩ := nw hp_p4 hG_p4
      have x14 := (x12.trans x3).trans x4
      refine ⟨_, rfl, _, rfl, a, _, _, _, rfl, rfl, SqT.of (x14 _ _ ha), rfl, _, rfl, part _ t1 _ _ (d1.ex x14) w1 (by omega) (by omega) fun H5 v3 x5 D3 => ?_⟩
      have x15 := x14.trans x5
      refine ⟨_, rfl, a, _, _, _, rfl, rfl, SqT.of (x15 _ _ ha), rfl, _, rfl, part _ t2 _ _ (d2.ex x15) w2 (by omega) (by omega) fun H6 v4 x6 D4 => ⟨z4, ?_⟩⟩
      intro p7 hp_p7
      generalize hG_p7 : upd _ p7 _ = H7
      obtain ⟨x7, g7⟩ := nw hp_p7 hG_p7
      have y6 := x6.trans x7
      have y5 := x5.trans y6
      have y4 := x4.trans y5
      exact q _ _ (x15.trans y6) ⟨p7, .ref p4, v3, v4, rfl, g7, ⟨p4, v1, v2, rfl, y5 _ _ g4, D1.ex (x3.trans y4), D2.ex y4⟩, D3.ex y6, D4.ex x7⟩
    | num m => exact w0.elim
    | late m => exact w0.elim
    | early => exact w0.elim
    | ife t0 t1 t2 => exact w0.elim
    | call f mk mc as => exact w0.elim
    | pcall f as => exact w0.elim
    | nil => exact w0.elim
    | cons a r => exact w0.elim
  | call fn mk mc as =>
    obtain ⟨a, m, b, ys, e, ha, hm, hb, das⟩ := hd
    injection e with e _
    subst e
    obtain ⟨⟨mm, w0⟩, w1, w2⟩ := id hw
    have hw2 : (Tr.call fn mk mc as).wt = 1 + as.wt := rfl
    have hh2 : (Tr.call fn mk mc as).ht = as.ht + 1 := rfl
    obtain ⟨ts, rfl, hP, hts⟩ := das.args w2
    have hlen : ts.length ≤ 600 := by
      have := mkA_len fun t ht => (hts t ht).1.wt1
      omega
    have hly := hP.length
    have hj := mvd_ok w1 k0
    have hf := hn8 _ w0
    refine ⟨_, rfl, a, _, _, _, rfl, rfl, SqT.of ha, rfl, z2, ?_⟩
    intro p1 hp_p1
    generalize hG_p1 : upd _ p1 _ = H1
    obtain ⟨x1, g_p1⟩ := nw hp_p1 hG_p1
    refine ⟨p1, _, rfl, .inl (SqL.of g_p1), rfl, by simp [flatV], _, rfl, ifF (by decide +kernel) ?_⟩
    have ha1 := x1 _ _ ha
    refine ⟨_, rfl, a, _, _, _, rfl, rfl, SqT.of (ha1), rfl, rfl, _, rfl, ifF (by decide +kernel) ?_⟩
    refine ⟨_, rfl, a, _, _, _, rfl, rfl, SqT.of (ha1), rfl, rfl, _, rfl, ifF (by decide +kernel) ?_⟩
    refine ⟨_, rfl, a, _, _, _, rfl, rfl, SqT.of (ha1), rfl, rfl, _, rfl, ifF (by decide +kernel) ?_⟩
    refine ⟨_, rfl, a, _, _, _, rfl, rfl, SqT.of (ha1), rfl, rfl, _, rfl, ifT (by decide +kernel) ?_⟩
    have nl := num_len hj.1 (show mvd mk mc k ≤ 1000000 by omega)
    have hfl := (nm8_ok fn hf).1
    have hu : usc.length = 1 := by decide +kernel
    have hfu : (fn ++ usc).length = fn.length + usc.length := by rw [TL.len_tl, TL.tl_append, List.length_append, ← TL.len_tl, ← TL.len_tl]
    have lg : (mvd mk mc k).natAbs.log2 < 1920 := by
      have h1 : (mvd mk mc k).natAbs < 2 ^ 20 := by have : (2 : Nat) ^ 20 = 1048576 := by decide
                                                    omega
      by_cases h0 : (mvd mk mc k).natAbs = 0
      · rw [h0]
        decide
      · have := (Nat.log2_lt h0).mpr h1
        omega
    refine ⟨_, rfl, a, _, _, _, rfl, rfl, SqT.of ha1, rfl, _, _, rfl, rfl, sz (by show fn.length + usc.length ≤ _; omega), ?_⟩
    refine ⟨_, rfl, a, _, _, _, rfl, rfl, SqT.of ha1, rfl, _, rfl, m, mk, mc, k, rfl, x1 _ _ hm, _, rfl, lg, _, _, rfl, rfl, sz (by show (fn ++ usc).length + (Str.ofString (toString (mvd mk mc k))).length ≤ _; omega), ?_⟩
    refine ⟨_, rfl, _, rfl, a, _, _, _, rfl, rfl, SqT.of ha1, rfl, b, rfl, ⟨_, SqT.of (x1 _ _ hb)⟩, fun DD hD => ?_⟩
    refine lc_tup (K := K) (a := b) (xs := ys) (fun i H' => ∃ acc : List V, H' DD = some (.lst acc) ∧ acc.length ≤ i ∧ Kp DD H1 H' ∧ Paired (fun y t => De H' t [y]) acc ((ts.take i).map (Tr.left k))) ⟨[], upd_same, Nat.le_refl _, Kp.put, by simpa using Paired.nil⟩ ?_ ?_ ?_
    · rintro j H' _ ⟨acc, _, _, kp, _⟩
      exact SqT.of (kp.ex hD _ _ (x1 _ _ hb))
    · rintro j y H' hy ⟨acc, hacc, hal, kp, hpa⟩
      obtain ⟨t, ht, hdt⟩ := Paired.at_ hP hy
      have xk := x1.trans (kp.ex hD)
      have htt := hts t (List.mem_of_getElem? ht)
      have hj2 : j < ys.length := (List.getElem?_eq_some_iff.mp hy).1
      have htw : t.wt ≤ 600 := by
        have := mkA_mem (List.mem_of_getElem? ht)
        omega
      refine ⟨rfl, _, rfl, _, rfl, part _ t _ _ (hdt.ex xk) htt.1 htw (by omega) fun H2 v1 x2 D1 => ?_⟩
      have hacc2 := x2 _ _ hacc
      have txu : Tx H2 (upd H2 DD (.lst (acc ++ [v1]))) := (Kp.put (r := DD)).tx hacc2
      refine ⟨acc, hacc2, sz' (by omega), acc ++ [v1], upd_same, by rw [List.length_append, List.length_singleton]; omega, (kp.trans (Kp.of x2)).trans Kp.put, ?_⟩
      rw [take_snoc ht, List.map_append]
      exact Paired.snoc (F := fun y t => De (upd H2 DD (.lst (acc ++ [v1]))) t [y]) (D1.mono txu) (L2.Paired.mapP hpa fun (y : V) (t : Tr) (h : De H' t [y]) => De.mono ((Tx.of x2).trans txu) h)
    · rintro H' ⟨acc, hacc, hal, kp, hpa⟩
      rw [List.take_of_length_le (Nat.le_of_eq hly.symm)] at hpa
      have xk := x1.trans (kp.ex hD)
      refine ⟨DD, acc, rfl, .inl ⟨SqL.of hacc, ?_⟩⟩
      intro p6 hp_p6
      generalize hG_p6 : upd _ p6 _ = H6
      obtain ⟨x6, g6⟩ := nw hp_p6 hG_p6
      refine ⟨z3, ?_⟩
      intro p7 hp_p7
      generalize hG_p7 : upd _ p7 _ = H7
      obtain ⟨x7, g7⟩ := nw hp_p7 hG_p7
      have x67 := x6.trans x7
      refine q _ _ (xk.trans x67) ⟨p7, p6, acc, rfl, g7, x7 _ _ g6, ?_⟩
      rw [mkA_left]
      exact De.mkA (L2.Paired.mapP hpa fun (y : V) (t : Tr) (h : De H' t [y]) => De.ex h x67)
  | blw c => exact hw.elim
  | rst m r => exact hw.elim
  | pcall f as => exact hw.elim
  | nil => exact hw.elim
  | cons a r => exact hw.elim
theorem l_left (D : Dd K mg "_law_left" s_law_left ["_law_one", "_law_early"]) (T : Tb K mg) (c_l_holds : Dn P w K mg base L2.CX0 1 "_law_holds" spHolds) (c_l_moved : Dn P w K mg base L2.CX0 1 "_law_moved" spMoved)
    (c_l_worked : Dn P w K mg base L2.CX0 1 "_law_worked" spWorked) (c_l_is_early : Dn P w K mg base L2.CX0 30 "_law_is_early" (spEar 30)) : ∀ n : Nat, n ≤ 30 → Dn P w K mg base L2.CX0 (30 + n) "_law_left" (spLeft n)
  | 0, _ => D.none fun vs H Q E h => by
    obtain ⟨t, v, k, ns, L, _, _, hw, _, _, _, _, _, hh, _⟩ := h
    cases t <;> first | (simp only [Tr.ht] at hh; omega) | exact hw.elim
  | n + 1, h => ok_l_left D T (by omega) c_l_holds c_l_moved c_l_worked c_l_is_early (l_left D T c_l_holds c_l_moved c_l_worked c_l_is_early n (by omega))
end

end M10
set_option Elab.async false
set_option linter.all false
set_option maxRecDepth 100000
set_option maxHeartbeats 4000000
namespace M10
open PySem PySem.Spec PyProof.Rows L2 Evl
/-! ### sorted, of pairs of a text and a whole number: the same ones in some order -/
section
open Srt
variable {prog : Program} {w : World} {A : Around} {E : Value → Shared → Prop} {s : Shared}
def SIp (g : Heap) (v : Value) : Prop := ∃ (b : Addr) (ob : Obj) (z : Str) (tz : Tok) (k : Int) (tk : Tok) (e : Nat), v = .ref b ∧ g.get? b = some ob ∧ ob.cls = .type "tuple" ∧ ob.data = .seq #[.str z tz, .int k tk] e
theorem SIp.keeps {g g' : Heap} {v : Value} (hv : SIp g v) (kp : ∀ b o, g.get? b = some o → o.cls = .type "tuple" → g'.get? b = some o) : SIp g' v := by
  obtain ⟨b, ob, z, tz, k, tk, e, h1, h2, h3, h4⟩ := hv
  exact ⟨b, ob, z, tz, k, tk, e, h1, kp _ _ h2 h3, h3, h4⟩
theorem sip_tot {vs : List Value} (hp : ∀ v ∈ vs, SIp s.heap v) : Tot prog w A s (tuples' true) (fun p => p.1 ∈ vs) := by
  intro p q hm hm'
  obtain ⟨b1, o1, z1, t1, k1, u1, n1, e1, g1, c1, d1⟩ := hp _ hm
  obtain ⟨b2, o2, z2, t2, k2, u2, n2, e2, g2, c2, d2⟩ := hp _ hm'
  rw [e1, e2]
  refine ⟨if z1 = z2 then (if k1 = k2 then false else decide (k1 < k2)) else decide (z1.cps.toList < z2.cps.toList), ?_⟩
  refine PySem.W.kat_lt g1 d1 g2 d2 ?_
  show PySem.W.KatLex prog w A true (decide (2 < 2)) _ [(.str z1 t1, .str z2 t2), (.int k1 u1, .int k2 u2)] 0 s
  refine PySem.W.kat_cons (SeqAt.EqAt.str_str z1 t1 z2 t2 prog w _ _ ?_)
  refine PySem.W.kat_go (fun y1 => ?_) (fun y1 => ?_)
  · have hz : z1 = z2 := by simpa using y1
    refine PySem.W.kat_yes (PySem.W.kat_cons (SeqAt.EqAt.int_int k1 u1 k2 u2 prog w _ _ ?_))
    refine PySem.W.kat_go (fun y2 => ?_) (fun y2 => ?_)
    · have hk : k1 = k2 := by simpa using y2
      rw [if_pos hz, if_pos hk]
      exact PySem.W.kat_yes (PySem.W.kat_nil ⟨rfl, rfl⟩)
    · have hk : ¬ k1 = k2 := by simpa using y2
      rw [if_pos hz, if_neg hk]
      refine PySem.W.kat_no (PySem.W.kat_one _ _ (PyProof.Rows.lt_int ?_))
      exact (show s = s ∧ decide (k1 < k2) = decide (k1 < k2) from ⟨rfl, rfl⟩)
  · have hz : ¬ z1 = z2 := by simpa using y1
    rw [if_neg hz]
    exact PySem.W.kat_no (oneLt_str ⟨rfl, rfl⟩)
theorem sip_firsts {g : Heap} : ∀ {vs : List Value}, (∀ v ∈ vs, SIp g v) → ∃ fs : List Value, PySem.W.KatTups g vs fs ∧ fs.length = vs.length ∧ ∀ f ∈ fs, ∃ (z : Str) (t : Tok), f = Value.str z t
  | [], _ => ⟨[], PySem.W.KatTups.nil, rfl, fun _ hm => by simp at hm⟩
  | v :: vs, hp => by
    obtain ⟨fs, h1, h2, h3⟩ := sip_firsts (vs := vs) fun v' hm => hp v' (List.mem_cons_of_mem _ hm)
    obtain ⟨b, ob, z, tz, k, tk, e, h4, h5, h6, h7⟩ := hp v List.mem_cons_self
    subst h4
    refine ⟨.str z tz :: fs, PySem.W.KatTups.cons h5 h6 h7 rfl h1, by rw [List.length_cons, List.length_cons, h2], fun f hm => ?_⟩
    rcases List.mem_cons.mp hm with rfl | hm
    · exact ⟨z, tz, rfl⟩
    · exact h3 f hm
theorem sip_sortable {a : Addr} {vs : List Value} (h0 : 0 < vs.length) (hp : ∀ v ∈ vs, SIp s.heap v) (ha : ∀ o, s.heap.get? a = some o → o.cls ≠ .type "tuple") : Sortable prog w A s a vs := by
  intro g kp
  have hq : ∀ v ∈ vs, SIp g v := fun v hm => (hp v hm).keeps fun b o e c => kp b o (fun z => by subst z; exact ha o e c) e
  obtain ⟨fs, h1, h2, h3⟩ := sip_firsts hq
  refine ⟨tuples' true, fun Q E hQ => ?_, sip_tot hq⟩
  refine PySem.W.kat_kind (T := .type "str") h1 (by omega) (fun f hm => ?_) (by rfl) ?_
  · obtain ⟨z, t, rfl⟩ := h3 f hm
    exact PySem.W.Looks.now
  · have e : (Value.type "str" != Value.type "tuple") = true := by decide +kernel
    rw [e]
    exact hQ
end
def rSortSI (K : PySem.W.Frag) : List V → Hp → VK → Prop := fun vs H Q => ∃ (a : Addr) (xs : List V), vs = [V.ref a] ∧ SqL K H a xs ∧ (∀ x ∈ xs, ∃ (t : Addr) (z : Str) (k : Int), x = V.ref t ∧ H t = some (.tup [.str z, .int k])) ∧
  ∀ ys p, ys.Perm xs → H p = none → Q (.ref p) (upd H p (.lst ys))
theorem cr_sortSI {X : Cx} : CallR X (.builtin "sorted") (rSortSI X.K) := by
  intro pins s σ H vs us Q I r h
  obtain ⟨a, xs, rfl, hs, hx, q⟩ := h
  obtain ⟨its, rv, hl, hz⟩ := I.list hs
  obtain ⟨u, rfl, ru⟩ := vals1 r
  obtain rfl : u = Value.ref a := ru
  obtain ⟨b1, b2⟩ := refs_back rv fun x m => by
    obtain ⟨t, _, _, e, _⟩ := hx x m
    exact ⟨t, e⟩
  have hp : ∀ v ∈ its, SIp s.heap v := fun v hv => by
    obtain ⟨t, rfl⟩ := b2 v hv
    have hm : V.ref t ∈ xs := by rw [b1]; exact List.mem_map.mpr ⟨_, hv, rfl⟩
    obtain ⟨t', z, k, e, ht⟩ := hx _ hm
    cases e
    obtain ⟨_, its2, r2, o, ho, hc, n, hd⟩ := I.hok _ _ ht
    obtain ⟨u1, u2, rfl, ri, rj⟩ := vals2 r2
    obtain ⟨t1, rfl⟩ := ri
    obtain ⟨t2, rfl⟩ := rj
    exact ⟨t, o, z, t1, k, t2, n, rfl, ho, hc, hd⟩
  refine Srt.sorted_any hl.isList (by rw [← rv.length]; exact hz) (fun h2 h₁ b hb kk => ?_) fun out ho => ?_
  · refine sip_sortable (s := { s with heap := h₁ }) (by omega) (fun v hm => (hp v hm).keeps fun b o e _ => (kk b o e).2) fun o e => ?_
    have e' : some o = some (PyProof.Rows.seqObj "list" its.toArray 0) := e.symm.trans hb
    cases e'
    intro c
    exact absurd (Value.type.inj c) (by decide)
  · have h3 : ∀ u ∈ out, ∃ a, u = Value.ref a := fun u hu => b2 u (ho.mem_iff.mp hu)
    have hperm : (out.map backV).Perm xs := by
      rw [b1]
      exact ho.map backV
    have kp : ∀ b o, s.heap.get? b = some o → (PyProof.Rows.sortedAll s.heap its out.toArray).get? b = some o := fun b o e => PyProof.Rows.sortedAll_old e
    obtain ⟨n, hn⟩ := PyProof.Rows.sortedAll_at s.heap its out.toArray
    refine ⟨.ref (s.heap.objs.size + 1), upd H (s.heap.objs.size + 1) (.lst (out.map backV)), I.laid (t' := s.toks) kp (Nat.le_succ _) ⟨?_, out, n, vals_back h3, hn⟩, rfl, q _ _ hperm (I.hok.fresh (Nat.le_succ _))⟩
    rw [hperm.length_eq]
    exact hz

end M10
set_option Elab.async false
set_option linter.all false
set_option maxRecDepth 100000
set_option maxHeartbeats 4000000
namespace M10
open PySem PySem.Spec PyProof.Rows L2 Evl
/-! ### the parts of a plain tree, its calls -/
def Tr.argl : Tr → List Tr
  | .cons a r => a :: r.argl
  | _ => []
def Tr.kids : Tr → List Tr
  | .two _ a b => [a, b]
  | .ife t a b => [t, a, b]
  | .pcall _ as => as.argl
  | _ => []
def Tr.own : Tr → List Str
  | .pcall f _ => [f]
  | _ => []
theorem argl_cns {R : Str → Prop} : ∀ {as : Tr}, Pf R as .a → as.cns = as.argl.flatMap Tr.cns
  | .nil, _ => rfl
  | .cons a r, ⟨_, h⟩ => by
    show a.cns ++ r.cns = (a :: r.argl).flatMap Tr.cns
    rw [argl_cns h, List.flatMap_cons]
theorem argl_wf {R : Str → Prop} : ∀ {as : Tr}, Pf R as .a → ∀ c ∈ as.argl, Pf R c .e ∧ c.ht ≤ as.ht ∧ c.wt ≤ as.wt
  | .nil, _ => fun c hc => absurd hc List.not_mem_nil
  | .cons a r, ⟨h1, h2⟩ => fun c hc => by
    have e1 : (Tr.cons a r).ht = max a.ht r.ht := rfl
    have e2 : (Tr.cons a r).wt = a.wt + r.wt := rfl
    rcases List.mem_cons.mp hc with e | hc
    · rw [e]
      exact ⟨h1, by omega, by omega⟩
    · obtain ⟨i1, i2, i3⟩ := argl_wf h2 c hc
      exact ⟨i1, by omega, by omega⟩
theorem argl_de {R : Str → Prop} {H : Hp} : ∀ {as : Tr} {ys : List V}, De H as ys → Pf R as .a → Paired (fun y c => De H c [y]) ys as.argl
  | .nil, ys, h, _ => by
    have e : ys = [] := h
    subst e
    exact .nil
  | .cons a r, _, ⟨u, us, rfl, h1, h2⟩, ⟨_, w2⟩ => .cons h1 (argl_de h2 w2)
theorem kids_cns {R : Str → Prop} {t : Tr} {f : Fl} (h : Pf R t f) (hf : f ≠ .a) : t.cns = t.own ++ t.kids.flatMap Tr.cns := by
  cases t with
  | two k a b => simp [Tr.cns, Tr.own, Tr.kids]
  | ife t a b => simp [Tr.cns, Tr.own, Tr.kids]
  | pcall g as =>
    cases f with
    | e =>
      show g :: as.cns = [g] ++ as.argl.flatMap Tr.cns
      rw [argl_cns h.2] <;> rfl
    | t => exact h.elim
    | a => exact h.elim
  | cons a r => cases f <;> first | exact h.elim | exact absurd rfl hf
  | num n => rfl
  | early => rfl
  | late i => rfl
  | blw c => rfl
  | rst m r => rfl
  | call f mk mc as => rfl
  | nil => rfl
structure Kid (R : Str → Prop) (t c : Tr) : Prop where
  pf : ∃ f, f ≠ Fl.a ∧ Pf R c f
  ht : c.ht + 1 ≤ t.ht
  wt : c.wt ≤ t.wt
theorem kids_ok {R : Str → Prop} {t : Tr} {f : Fl} (h : Pf R t f) (hf : f ≠ .a) : ∀ c ∈ t.kids, Kid R t c := by
  intro c hc
  cases t with
  | two k a b =>
    have e1 : (Tr.two k a b).ht = max a.ht b.ht + 1 := rfl
    have e2 : (Tr.two k a b).wt = 1 + a.wt + b.wt := rfl
    have h' : Pf R a .e ∧ Pf R b .e := by cases f <;> first | exact h.2 | exact h.elim
    rcases List.mem_cons.mp hc with e | hc
    · rw [e]
      exact ⟨⟨.e, by simp, h'.1⟩, by omega, by omega⟩
    · rw [List.mem_singleton.mp hc]
      exact ⟨⟨.e, by simp, h'.2⟩, by omega, by omega⟩
  | ife t a b =>
    have e1 : (Tr.ife t a b).ht = max t.ht (max a.ht b.ht) + 1 := rfl
    have e2 : (Tr.ife t a b).wt = 2 + t.wt + a.wt + b.wt := rfl
    have h' : Pf R t .t ∧ Pf R a .e ∧ Pf R b .e := by cases f <;> first | exact h | exact h.elim
    rcases List.mem_cons.mp hc with e | hc
    · rw [e]
      exact ⟨⟨.t, by simp, h'.1⟩, by omega, by omega⟩
    rcases List.mem_cons.mp hc with e | hc
    · rw [e]
      exact ⟨⟨.e, by simp, h'.2.1⟩, by omega, by omega⟩
    · rw [List.mem_singleton.mp hc]
      exact ⟨⟨.e, by simp, h'.2.2⟩, by omega, by omega⟩
  | pcall g as =>
    have e1 : (Tr.pcall g as).ht = as.ht + 1 := rfl
    have e2 : (Tr.pcall g as).wt = 1 + as.wt := rfl
    have h' : Pf R as .a := by cases f <;> first | exact h.2 | exact h.elim
    obtain ⟨i1, i2, i3⟩ := argl_wf h' c hc
    exact ⟨⟨.e, by simp, i1⟩, by omega, by omega⟩
  | num n => cases hc
  | early => cases hc
  | late i => cases hc
  | blw c => cases hc
  | rst m r => cases hc
  | call f mk mc as => cases hc
  | nil => cases hc
  | cons a r => cases hc
theorem cns_wt {R : Str → Prop} : ∀ {t : Tr} {f : Fl}, Pf R t f → t.cns.length ≤ t.wt
  | .num n, .e, _ => Nat.zero_le _
  | .late i, .e, _ => Nat.zero_le _
  | .two k a b, .e, ⟨_, h1, h2⟩ => by
    have i1 := cns_wt h1
    have i2 := cns_wt h2
    show (a.cns ++ b.cns).length ≤ 1 + a.wt + b.wt
    rw [List.length_append]
    omega
  | .two k a b, .t, ⟨_, h1, h2⟩ => by
    have i1 := cns_wt h1
    have i2 := cns_wt h2
    show (a.cns ++ b.cns).length ≤ 1 + a.wt + b.wt
    rw [List.length_append]
    omega
  | .ife t a b, .e, ⟨h0, h1, h2⟩ => by
    have i0 := cns_wt h0
    have i1 := cns_wt h1
    have i2 := cns_wt h2
    show (t.cns ++ (a.cns ++ b.cns)).length ≤ 2 + t.wt + a.wt + b.wt
    rw [List.length_append, List.length_append]
    omega
  | .pcall f as, .e, ⟨_, h2⟩ => by
    have i2 := cns_wt h2
    show as.cns.length + 1 ≤ 1 + as.wt
    omega
  | .nil, .a, _ => Nat.zero_le _
  | .cons a r, .a, ⟨h1, h2⟩ => by
    have i1 := cns_wt h1
    have i2 := cns_wt h2
    show (a.cns ++ r.cns).length ≤ a.wt + r.wt
    rw [List.length_append]
    omega
def spParts : Sp := fun vs H Q _ => ∃ (R : Str → Prop) (t : Tr) (f : Fl) (v : V), vs = [v] ∧ De H t [v] ∧ Pf R t f ∧ f ≠ .a ∧ ∀ H' l xs, Ex H H' → H' l = some (.lst xs) → Paired (fun y c => De H' c [y]) xs t.kids → Q (.ref l) H'
theorem k4_t5 (k : K4) : inV (.str k.s) [.str "number", .str "early", .str "late", .str "below", .str "rest"] = false := by cases k <;> decide +kernel
section
variable {P : Program} {w : World} {K : PySem.W.Frag} {mg : Str → Option Value} {base : Heap}
theorem sc_law_parts : FnScope ["_law_one"] ["_law_one"] (defScope s_law_parts) := ⟨rfl, rfl, rfl, by decide +kernel, rfl, by decide +kernel, by decide +kernel⟩
theorem ok_l_parts (D : Dd K mg "_law_parts" s_law_parts ["_law_one"]) (T : Tb K mg) : Dn P w K mg base L2.CX0 1 "_law_parts" spParts := by
  refine D.ok sc_law_parts (fun vs H Q E h => by obtain ⟨R, t, f, v, rfl, _⟩ := h; rfl) (fun f cdv A outer s H vs Q E hr h => ?_)
  obtain ⟨R, t, f, v, rfl, hd, hw, hf, q⟩ := h
  refine ⟨_, (pss_cons (ps_if (pt_cmpR op_in_seq (pe_ix ix_tup (pv 0) pe_int (fun _ _ => rfl)) (pe_lst (pa_cons pe_str (pa_cons pe_str (pa_cons pe_str (pa_cons pe_str (pa_cons pe_str pa_nil)))))) rfl) (pss_one (ps_ret (pe_lst pa_nil))) pss_nil)
    (pss_one (ps_ret (pe_ifExp (pt_cmpR op_eq (pe_ix ix_tup (pv 0) pe_int (fun _ _ => rfl)) pe_str (nomark _)) (pct call_list_of T.list (pa_cons (pe_ix ix_tup (pv 0) (pe_un un_neg pe_int) (fun _ _ => rfl)) pa_nil)) (pct call_list_of T.list (pa_cons (pe_slice sl_tupA (pv 0) (po_some pe_int) po_none) pa_nil)))))), ?_⟩
  cases t with
  | num m =>
    obtain ⟨a, e, ha⟩ := hd
    injection e with e _
    subst e
    refine ⟨_, rfl, a, _, _, _, rfl, rfl, SqT.of ha, rfl, z5, ?_⟩
    intro p1 hp_p1
    generalize hG_p1 : upd _ p1 _ = H1
    obtain ⟨x1, g_p1⟩ := nw hp_p1 hG_p1
    refine ⟨p1, _, rfl, .inl (SqL.of g_p1), rfl, by simp [flatV], _, rfl, ifT (by decide +kernel) ?_⟩
    refine ⟨z0, ?_⟩
    intro p2 hp_p2
    generalize hG_p2 : upd _ p2 _ = H2
    obtain ⟨x2, g2⟩ := nw hp_p2 hG_p2
    exact q _ _ _ (x1.trans x2) g2 .nil
  | late m =>
    obtain ⟨a, e, ha⟩ := hd
    injection e with e _
    subst e
    refine ⟨_, rfl, a, _, _, _, rfl, rfl, SqT.of ha, rfl, z5, ?_⟩
    intro p1 hp_p1
    generalize hG_p1 : upd _ p1 _ = H1
    obtain ⟨x1, g_p1⟩ := nw hp_p1 hG_p1
    refine ⟨p1, _, rfl, .inl (SqL.of g_p1), rfl, by simp [flatV], _, rfl, ifT (by decide +kernel) ?_⟩
    refine ⟨z0, ?_⟩
    intro p2 hp_p2
    generalize hG_p2 : upd _ p2 _ = H2
    obtain ⟨x2, g2⟩ := nw hp_p2 hG_p2
    exact q _ _ _ (x1.trans x2) g2 .nil
  | two k4 t1 t2 =>
    obtain ⟨a, u, v, e, ha, d1, d2⟩ := hd
    injection e with e _
    subst e
    refine ⟨_, rfl, a, _, _, _, rfl, rfl, SqT.of ha, rfl, z5, ?_⟩
    intro p1 hp_p1
    generalize hG_p1 : upd _ p1 _ = H1
    obtain ⟨x1, g_p1⟩ := nw hp_p1 hG_p1
    refine ⟨p1, _, rfl, .inl (SqL.of g_p1), rfl, by simp [flatV], _, rfl, ifF (k4_t5 _) ?_⟩
    have ha1 := x1 _ _ ha
    refine ⟨_, rfl, a, _, _, _, rfl, rfl, SqT.of (ha1), rfl, rfl, _, rfl, ifF (k4_call _) ?_⟩
    refine ⟨_, rfl, 1, rfl, a, _, rfl, SqT.of ha1, fun z => (cut1_ne z).elim, fun _ => ?_⟩
    rw [cut1]
    intro p2 hp_p2
    generalize hG_p2 : upd _ p2 _ = H2
    obtain ⟨x2, g2⟩ := nw hp_p2 hG_p2
    refine ⟨p2, _, rfl, .inr (SqT.of g2), fun l hl => ?_⟩
    have x3 := (x1.trans x2).trans (Ex.new (o := .lst [u, v]) hl)
    exact q _ _ _ x3 upd_same (.cons (d1.ex x3) (.cons (d2.ex x3) .nil))
  | ife t0 t1 t2 =>
    obtain ⟨a, w, u, v, e, ha, d0, d1, d2⟩ := hd
    injection e with e _
    subst e
    refine ⟨_, rfl, a, _, _, _, rfl, rfl, SqT.of ha, rfl, z5, ?_⟩
    intro p1 hp_p1
    generalize hG_p1 : upd _ p1 _ = H1
    obtain ⟨x1, g_p1⟩ := nw hp_p1 hG_p1
    refine ⟨p1, _, rfl, .inl (SqL.of g_p1), rfl, by simp [flatV], _, rfl, ifF (by decide +kernel) ?_⟩
    have ha1 := x1 _ _ ha
    refine ⟨_, rfl, a, _, _, _, rfl, rfl, SqT.of (ha1), rfl, rfl, _, rfl, ifF (by decide +kernel) ?_⟩
    refine ⟨_, rfl, 1, rfl, a, _, rfl, SqT.of ha1, fun z => (cut1_ne z).elim, fun _ => ?_⟩
    rw [cut1]
    intro p2 hp_p2
    generalize hG_p2 : upd _ p2 _ = H2
    obtain ⟨x2, g2⟩ := nw hp_p2 hG_p2
    refine ⟨p2, _, rfl, .inr (SqT.of g2), fun l hl => ?_⟩
    have x3 := (x1.trans x2).trans (Ex.new (o := .lst [w, u, v]) hl)
    exact q _ _ _ x3 upd_same (.cons (d0.ex x3) (.cons (d1.ex x3) (.cons (d2.ex x3) .nil)))
  | pcall fn as =>
    obtain ⟨a, b, ys, e, ha, hb, das⟩ := hd
    injection e with e _
    subst e
    have hw' : Pf R as .a := by cases f <;> first | exact hw.2 | exact hw.elim
    refine ⟨_, rfl, a, _, _, _, rfl, rfl, SqT.of ha, rfl, z5, ?_⟩
    intro p1 hp_p1
    generalize hG_p1 : upd _ p1 _ = H1
    obtain ⟨x1, g_p1⟩ := nw hp_p1 hG_p1
    refine ⟨p1, _, rfl, .inl (SqL.of g_p1), rfl, by simp [flatV], _, rfl, ifF (by decide +kernel) ?_⟩
    have ha1 := x1 _ _ ha
    refine ⟨_, rfl, a, _, _, _, rfl, rfl, SqT.of (ha1), rfl, rfl, _, rfl, ifT (by decide +kernel) ?_⟩
    refine ⟨_, rfl, _, rfl, a, _, _, _, rfl, rfl, SqT.of ha1, rfl, b, _, rfl, .inr (SqT.of (x1 _ _ hb)), fun l hl => ?_⟩
    have x3 := x1.trans (Ex.new (o := .lst ys) hl)
    exact q _ _ _ x3 upd_same (argl_de (das.ex x3) hw')
  | early => cases f <;> exact hw.elim
  | call f' mk mc as => cases f <;> exact hw.elim
  | blw c => cases f <;> exact hw.elim
  | rst m r => cases f <;> exact hw.elim
  | nil => cases f <;> first | exact hw.elim | exact absurd rfl hf
  | cons a r => cases f <;> first | exact hw.elim | exact absurd rfl hf
/-! ### the calls in it -/
def CallAt (H : Hp) (x : V) (nm : Str) : Prop := ∃ a v, x = .ref a ∧ H a = some (.tup [.str "call", .str nm, v])
theorem CallAt.ex {H H' : Hp} {x : V} {nm : Str} (h : CallAt H x nm) (e : Ex H H') : CallAt H' x nm := by
  obtain ⟨a, v, e1, e2⟩ := h
  exact ⟨a, v, e1, e _ _ e2⟩
def spCalls (n : Nat) : Sp := fun vs H Q _ => ∃ (R : Str → Prop) (t : Tr) (f : Fl) (v : V), vs = [v] ∧ De H t [v] ∧ Pf R t f ∧ f ≠ .a ∧ t.ht ≤ n ∧ t.wt ≤ 600 ∧ ∀ H' l xs, Ex H H' → H' l = some (.lst xs) → Paired (CallAt H') xs t.cns → Q (.ref l) H'
theorem De.tagP {R : Str → Prop} {H : Hp} {t : Tr} {f : Fl} {v : V} (hd : De H t [v]) (hw : Pf R t f) (hf : f ≠ .a) : ∃ a xs, v = .ref a ∧ H a = some (.tup (.str t.tag :: xs)) ∧ ((t.tag = "call" ∧ ∃ nm u, xs = [.str nm, u] ∧ t.own = [nm]) ∨ (t.tag ≠ "call" ∧ t.own = [])) := by
  cases t with
  | num m => obtain ⟨a, e, ha⟩ := hd; exact ⟨a, _, by injection e, ha, .inr ⟨(by decide +kernel : ("number" : Str) ≠ "call"), rfl⟩⟩
  | late m => obtain ⟨a, e, ha⟩ := hd; exact ⟨a, _, by injection e, ha, .inr ⟨(by decide +kernel : ("late" : Str) ≠ "call"), rfl⟩⟩
  | two k4 t1 t2 => obtain ⟨a, u, v, e, ha, _⟩ := hd; exact ⟨a, _, by injection e, ha, .inr ⟨k4.two_ne.2.2.2.2.2.2, rfl⟩⟩
  | ife t0 t1 t2 => obtain ⟨a, w, u, v, e, ha, _⟩ := hd; exact ⟨a, _, by injection e, ha, .inr ⟨(by decide +kernel : ("if" : Str) ≠ "call"), rfl⟩⟩
  | pcall fn as => obtain ⟨a, b, ys, e, ha, _⟩ := hd; exact ⟨a, _, by injection e, ha, .inl ⟨rfl, _, _, rfl, rfl⟩⟩
  | early => cases f <;> exact hw.elim
  | call f' mk mc as => cases f <;> exact hw.elim
  | blw c => cases f <;> exact hw.elim
  | rst m r => cases f <;> exact hw.elim
  | nil => cases f <;> first | exact hw.elim | exact absurd rfl hf
  | cons a r => cases f <;> first | exact hw.elim | exact absurd rfl hf
theorem Paired.app {α β : Type} {F : α → β → Prop} : ∀ {l l2 : List α} {m m2 : List β}, Paired F l m → Paired F l2 m2 → Paired F (l ++ l2) (m ++ m2)
  | _, _, _, _, .nil, h => h
  | _, _, _, _, .cons r t, h => .cons r (Paired.app t h)
theorem flat_len {t : Tr} {i : Nat} : (t.own ++ (t.kids.take i).flatMap Tr.cns).length ≤ (t.own ++ t.kids.flatMap Tr.cns).length := by
  have e : t.kids.flatMap Tr.cns = (t.kids.take i).flatMap Tr.cns ++ (t.kids.drop i).flatMap Tr.cns := by rw [← List.flatMap_append, List.take_append_drop]
  rw [e, List.length_append, List.length_append, List.length_append]
  omega
theorem sc_law_calls : FnScope ["_law_one", "_law_found", "_law_part"] ["_law_one"] (defScope s_law_calls) := ⟨rfl, rfl, rfl, by decide +kernel, rfl, by decide +kernel, by decide +kernel⟩
theorem ok_l_calls (D : Dd K mg "_law_calls" s_law_calls ["_law_one"]) (T : Tb K mg) {n : Nat} (c_l_parts : Dn P w K mg base L2.CX0 1 "_law_parts" spParts) (c_l_calls : Dn P w K mg base L2.CX0 (n + 1) "_law_calls" (spCalls n)) :
    Dn P w K mg base L2.CX0 (n + 2) "_law_calls" (spCalls (n + 1)) := by
  refine D.ok sc_law_calls (fun vs H Q E h => by obtain ⟨R, t, f, v, rfl, _⟩ := h; rfl) (fun f cdv A outer s H vs Q E hr h => ?_)
  obtain ⟨R, t, f, v, rfl, hd, hw, hf, hh, hwt, q⟩ := h
  refine ⟨_, (pss_cut (sset 1 sc_law_calls.nd (pe_ifExp (pt_cmpR op_eq (pe_ix ix_tup (pv 0) pe_int (fun _ _ => rfl)) pe_str (nomark _)) (pe_lst (pa_cons (pv 0) pa_nil)) (pe_lst pa_nil)))
    (pss_cons (ps_for PassesOwn.never rfl (pi_list (pe_c0 c_l_parts hr (pa_cons (pv 0) pa_nil))) (gnm 2 sc_law_calls.nd) (pss_one (sset 1 sc_law_calls.nd (pe_op op_cat (pv 1) (pe_c0 c_l_calls hr (pa_cons (pv 2) pa_nil))))))
    (pss_one (ps_ret (pv 1))))), ?_⟩
  have hcl := cns_wt hw
  rw [kids_cns hw hf] at hcl q
  refine ⟨fun σ' H' => ∃ l xs, σ' = [some v, some (.ref l), none] ∧ Ex H H' ∧ H' l = some (.lst xs) ∧ Paired (CallAt H') xs t.own, ?_, ?_⟩
  · obtain ⟨a, xs, rfl, ha, hc⟩ := hd.tagP hw hf
    refine ⟨_, rfl, a, _, _, V.str t.tag, rfl, rfl, SqT.of ha, at0 _ _, rfl, _, rfl, if2 (fun c => ?_) (fun c => ?_)⟩
    · have c' : t.tag = "call" := V.str.inj (of_decide_eq_true c)
      rcases hc with ⟨_, nm, u, rfl, ho⟩ | ⟨hc, _⟩
      · refine ⟨_, rfl, z1, ?_⟩
        intro p1 hp_p1
        generalize hG_p1 : upd _ p1 _ = H1
        obtain ⟨x1, g1⟩ := nw hp_p1 hG_p1
        refine ⟨p1, _, rfl, x1, g1, ?_⟩
        rw [ho]
        rw [c'] at ha
        exact .cons ⟨a, u, rfl, x1 _ _ ha⟩ .nil
      · exact absurd c' hc
    · have c' : ¬ t.tag = "call" := fun z => of_decide_eq_false c (congrArg V.str z)
      rcases hc with ⟨hc, _⟩ | ⟨_, ho⟩
      · exact absurd hc c'
      · refine ⟨z0, ?_⟩
        intro p1 hp_p1
        generalize hG_p1 : upd _ p1 _ = H1
        obtain ⟨x1, g1⟩ := nw hp_p1 hG_p1
        refine ⟨p1, _, rfl, x1, g1, ?_⟩
        rw [ho]
        exact .nil
  rintro _ H1 ⟨l, xs, rfl, x1, hl, hP⟩
  refine ⟨_, rfl, R, t, f, v, rfl, hd.ex x1, hw, hf, fun H2 l2 ys x2 hl2 hK => ?_⟩
  have x12 := x1.trans x2
  refine ⟨l2, rfl, ⟨_, SqL.of hl2⟩, ?_⟩
  refine for_list (K := K) (a := l2) (xs := ys) (fun i σ' H' => ∃ l3 xs3 v3, σ' = [some v, some (.ref l3), v3] ∧ Ex H2 H' ∧ H' l3 = some (.lst xs3) ∧ Paired (CallAt H') xs3 (t.own ++ (t.kids.take i).flatMap Tr.cns))
    ⟨l, xs, _, rfl, Ex.refl _, x2 _ _ hl, by simpa using L2.Paired.mapP hP fun _ _ h => CallAt.ex h x2⟩ ?_ ?_ ?_
  · rintro i _ H' _ ⟨_, _, _, _, x3, _⟩
    exact SqL.of (x3 _ _ hl2)
  · rintro i y _ H3 hy ⟨l3, xs3, v3, rfl, x3, hl3, hP3⟩
    obtain ⟨c, hc, hdc⟩ := Paired.at_ hK hy
    have hk := kids_ok hw hf c (List.mem_of_getElem? hc)
    obtain ⟨f2, hf2, hw2⟩ := hk.pf
    have hh2 := hk.ht
    have hw3 := hk.wt
    refine ⟨_, rfl, _, rfl, R, c, f2, y, rfl, hdc.ex x3, hw2, hf2, by omega, by omega, fun H4 l4 xs4 x4 hl4 hP4 => ?_⟩
    have hlen : (xs3 ++ xs4).length ≤ 600 := by
      have h1 := (Paired.app (L2.Paired.mapP hP3 fun _ _ h => CallAt.ex h x4) hP4).length
      have h2 := flat_len (t := t) (i := i + 1)
      rw [take_snoc hc, List.flatMap_append, List.flatMap_singleton, ← List.append_assoc, ← h1] at h2
      omega
    rw [List.length_append] at hlen
    refine ⟨l3, l4, xs3, xs4, rfl, rfl, x4 _ _ hl3, hl4, sz (by omega), ?_⟩
    intro p5 hp_p5
    generalize hG_p5 : upd _ p5 _ = H5
    obtain ⟨x5, g5⟩ := nw hp_p5 hG_p5
    refine ⟨p5, _, _, rfl, (x3.trans x4).trans x5, g5, ?_⟩
    rw [take_snoc hc, List.flatMap_append, List.flatMap_singleton, ← List.append_assoc]
    exact L2.Paired.mapP (Paired.app (L2.Paired.mapP hP3 fun _ _ h => CallAt.ex h x4) hP4) fun _ _ h => CallAt.ex h x5
  · rintro _ H3 ⟨l3, xs3, v3, rfl, x3, hl3, hP3⟩
    rw [List.take_of_length_le (Nat.le_of_eq hK.length.symm)] at hP3
    exact ⟨_, rfl, q _ _ _ (x12.trans x3) hl3 hP3⟩
theorem l_calls (D : Dd K mg "_law_calls" s_law_calls ["_law_one"]) (T : Tb K mg) (c_l_parts : Dn P w K mg base L2.CX0 1 "_law_parts" spParts) : ∀ n : Nat, Dn P w K mg base L2.CX0 (n + 1) "_law_calls" (spCalls n)
  | 0 => D.none fun vs H Q E h => by
    obtain ⟨R, t, f, v, _, _, hw, hf, hh, _⟩ := h
    cases t <;> first | (simp only [Tr.ht] at hh; omega) | (cases f <;> first | exact hw.elim | exact absurd rfl hf)
  | n + 1 => ok_l_calls D T c_l_parts (l_calls D T c_l_parts n)
end

end M10
set_option Elab.async false
set_option linter.all false
set_option maxRecDepth 100000
set_option maxHeartbeats 4000000
namespace M10
open PySem PySem.Spec PyProof.Rows L2 Evl
/-! ### isinstance of a held error, with or without fields -/
def rIsD (K : PySem.W.Frag) (D a : Addr) (d : Option Addr) : List V → Hp → VK → Prop := fun xs H Q => (d = none ∨ ∃ (dd : Addr) (fs : List (Str × V)), d = some dd ∧ H dd = some (.xd fs)) ∧ ∃ (c : V) (cv : Value) (b : Bool), xs = [.ref a, c] ∧ (∀ u, RelV c u → u = cv) ∧ PySem.W.kitOne K (.ref D) cv = some b ∧ Q (.bl b) H
theorem call_isD {X : Cx} {a D : Addr} {d : Option Addr} {oe : Obj} {pn : List (Addr × Obj)} (C : ExcC X.K D) (hz : Zc (.ref D) d oe) (hf : ∃ vs, oe.data = .fields vs) : CallR (X.suite a ((a, oe) :: pn)) (.builtin "isinstance") (rIsD X.K D a d) := by
  intro pn2 s0 σ0 H0 xs0 us0 Q0 J0 r0 h0
  obtain ⟨hd, c, cv, b, rfl, hcv, e0, q0⟩ := h0
  obtain ⟨u1, u2, rfl, rx, rt⟩ := vals2 r0
  cases (show u1 = Value.ref a from rx)
  have ec0 := hcv _ rt
  subst ec0
  obtain ⟨hg0, _⟩ := J0.pin (a, oe) (List.mem_append.mpr (.inl List.mem_cons_self))
  obtain ⟨fv, hfv⟩ := hf
  obtain ⟨od, JI⟩ : ∃ od : Option Obj, PySem.W.InstAt s0.heap a oe D od := by
    rcases hd with rfl | ⟨dd, fs, rfl, hdd⟩
    · refine ⟨none, hg0, hz.1, (by unfold PySem.W.notCls; rw [hfv] <;> rfl), ?_⟩
      rw [hz.2]
      trivial
    · have hx0 : ObjOk X.prog X.w H0 s0.heap dd (.xd fs) := J0.hok dd _ hdd
      obtain ⟨mA, hns, _⟩ := hx0
      obtain ⟨od, ho, _⟩ := lookIn_ns hns
      exact ⟨some od, hg0, hz.1, (by unfold PySem.W.notCls; rw [hfv] <;> rfl), by rw [hz.2]; exact ho⟩
  obtain ⟨cd0, hcd0, _⟩ := PySem.W.any_some C.hd
  exact PySem.W.kia_one (PySem.W.kitx_exc (gt := none) (by rw [hcd0] <;> rfl) C.hg C.hk C.hs C.ha C.hn C.ht C.hm) J0.kIn JI e0 (fun z => nomatch z) fun tk => ⟨.bl b, H0, J0.kept (t' := tk) fun _ _ z => z, rfl, q0⟩
/-- told: what a() returns, ('stuck', address) of a Stuck, 'unsound' of an Unsound -/
def TToldS (CS CU : Addr) : (XK → Hp → VK → Prop) → Hp → VK → Prop := fun tl H Q =>
  tl (fun cls d H' => (cls = .ref CS ∧ ∃ (dd : Addr) (n : Int), d = some dd ∧ H' dd = some (.xd [("address", .int n)]) ∧ ∀ (p : Addr) (H2 : Hp), Ex H' H2 → H2 p = some (.tup [.str "stuck", .int n]) → Q (.ref p) H2) ∨ (cls = .ref CU ∧ d = none ∧ Q (.str "unsound") H')) H Q
/-- what told asks of the error classes -/
structure TolC (K : PySem.W.Frag) (mg : Str → Option Value) (CE CS CU : Addr) : Prop where
  gE : mg "StageError" = some (.ref CE)
  gS : mg "Stuck" = some (.ref CS)
  gU : mg "Unsound" = some (.ref CU)
  gI : mg "isinstance" = none
  eS : PySem.W.exmOne K (.ref CS) (.ref CE) = some true
  eU : PySem.W.exmOne K (.ref CU) (.ref CE) = some true
  xS : ExcC K CS
  xU : ExcC K CU
  xf : XfC K CS
  no : PySem.W.findIn K (.ref CS) "address" = some none
  k1 : PySem.W.kitOne K (.ref CS) (.ref CS) = some true
  k2 : PySem.W.kitOne K (.ref CU) (.ref CS) = some false
  k3 : PySem.W.kitOne K (.ref CU) (.ref CU) = some true
theorem PSs.weak {X : Cx} {b : List Stmt} {t t' : TS} (h : PSs X b t) (i : ∀ D σ H, σ.length = X.N.length → t' D σ H → t D σ H) : PSs X b t' := ⟨fun pins s σ H D I h' => h.run pins s σ H D I (i D σ H I.len h')⟩
theorem pss_ex {X : Cx} {b : List Stmt} {α : Type} {p : α → Prop} {t : α → TS} (h : ∀ x, p x → PSs X b (t x)) : PSs X b (fun D σ H => ∃ x, p x ∧ t x D σ H) := ⟨fun pins s σ H D I ⟨x, hx, z⟩ => (h x hx).run pins s σ H D I z⟩
theorem set_at {σ σ' : L2.St} {i : Nat} {x : Option V} {n : Nat} (hl : σ.length = n) (hi : i < n) (e : σ = σ'.set i x) : σ[i]? = some x := by
  subst e
  rw [List.length_set] at hl
  rw [List.getElem?_set_self (by omega)]
theorem pss_or {X : Cx} {b : List Stmt} {t u : TS} (h : PSs X b t) (k : PSs X b u) : PSs X b (fun D σ H => t D σ H ∨ u D σ H) := ⟨fun pins s σ H D I z => z.elim (fun z => h.run pins s σ H D I z) (fun z => k.run pins s σ H D I z)⟩
theorem pss_case {X : Cx} {b : List Stmt} {t : TS} {p : Prop} (h : p → PSs X b t) : PSs X b (fun D σ H => p ∧ t D σ H) := ⟨fun pins s σ H D I z => (h z.1).run pins s σ H D I z.2⟩
theorem told_givesS {X : Cx} {g CE CS CU : Addr} {cdg : Value} {q : Str} (T : TolC X.K X.mg CE CS CU) : LamX.GivesTo X ["_law_work", "e"] "_law_told" (defScope s_law_told) g cdg (defBody s_law_told) "_law_work" q (TToldS CS CU) := by
  intro f c' s H Q tl act hc h
  refine ⟨_, pss_one (ps_try_as (X := (cxOf C8.CX0 X.prog X.w X.K X.mg X.base ["_law_work", "e"] "_law_told" (defScope s_law_told) g cdg X.A X.stack s H C8.E0).nox) (c := .ref CE) (i := 1) (Wout := fun _ _ _ _ => False)
      (tb := fun W D σ H => ∃ Ech : XK, (∀ cls d σ' H', Ech cls d H' → W cls d σ' H') ∧ σ[0]? = some (some (.ref f)) ∧ H c' = some (LamX.CodeO c' q) ∧ tl Ech H D.rt)
      (ts := fun a cls d D σ H => (cls = .ref CS ∧ ∃ (dd : Addr) (n : Int), d = some dd ∧ (∃ σ' : L2.St, σ = σ'.set 1 (some (.ref a))) ∧ H dd = some (.xd [("address", .int n)]) ∧ ∀ (p : Addr) (H2 : Hp), Ex H H2 → H2 p = some (.tup [.str "stuck", .int n]) → D.rt (.ref p) H2) ∨ (cls = .ref CU ∧ d = none ∧ (∃ σ' : L2.St, σ = σ'.set 1 (some (.ref a))) ∧ D.rt (.str "unsound") H))
      rfl rfl (show (["_law_work", "e"] : List Str).Nodup by decide) rfl rfl ⟨rfl, by decide, .inl T.gE⟩ LamX.takes0 (fun W pn xe tk _ => ?_) (fun a oe cls d pn hz hf => pss_or (pss_case fun ec => ?_) (pss_case fun ec => ?_))), ?_⟩
  · exact pss_ex fun Ech hW => pss_one (ps_ret (act W pn xe Ech _ _ tk hW))
  · subst ec
    refine PSs.weak (pss_one (ps_ret (pe_ifExp (pt_val (pcb (call_isD T.xS hz hf) T.gI (pa_cons (pv 1) (pa_cons (pe_glob (v := .ref CS) (by rfl) T.gS rfl) pa_nil)))) (pe_tup (pa_cons pe_str (pa_cons (pe_xf T.xf T.no hz hf (pv 1)) pa_nil))) (pe_ifExp (pt_val (pcb (call_isD T.xS hz hf) T.gI (pa_cons (pv 1) (pa_cons (pe_glob (v := .ref CU) (by rfl) T.gU rfl) pa_nil)))) pe_str pe_str)))) fun D σ1 H1 hl z => ?_
    obtain ⟨dd, n, rfl, ⟨σ2, es⟩, hdd, q1⟩ := z
    have hs := set_at hl (by decide : 1 < 2) es
    refine ⟨_, hs, ⟨.inr ⟨dd, _, rfl, hdd⟩, _, _, true, rfl, fun u hu => hu, T.k1, ?_⟩⟩
    refine ⟨_, rfl, ifT rfl ?_⟩
    refine ⟨_, hs, rfl, rfl, dd, _, _, rfl, hdd, rfl, ?_⟩
    refine ⟨z2, ?_⟩
    intro p hp_p
    generalize hG_p : upd _ p _ = H2
    obtain ⟨x2, g2⟩ := nw hp_p hG_p
    exact q1 p _ x2 g2
  · subst ec
    refine PSs.weak (pss_one (ps_ret (pe_ifExp (pt_val (pcb (call_isD T.xU hz hf) T.gI (pa_cons (pv 1) (pa_cons (pe_glob (v := .ref CS) (by rfl) T.gS rfl) pa_nil)))) (pe_tup (pa_cons pe_str (pa_cons (pe_xf (C := CS) T.xf T.no hz hf (pv 1)) pa_nil))) (pe_ifExp (pt_val (pcb (call_isD T.xU hz hf) T.gI (pa_cons (pv 1) (pa_cons (pe_glob (v := .ref CU) (by rfl) T.gU rfl) pa_nil)))) pe_str pe_str)))) fun D σ1 H1 hl z => ?_
    obtain ⟨rfl, ⟨σ2, es⟩, q1⟩ := z
    have hs := set_at hl (by decide : 1 < 2) es
    refine ⟨_, hs, ⟨.inl rfl, _, _, false, rfl, fun u hu => hu, T.k2, ?_⟩⟩
    refine ⟨_, rfl, ifF rfl ?_⟩
    refine ⟨_, hs, ⟨.inl rfl, _, _, true, rfl, fun u hu => hu, T.k3, ?_⟩⟩
    exact ⟨_, rfl, ifT rfl q1⟩
  · refine ⟨_, fun cls d σ' H' hh => ?_, rfl, hc, h⟩
    rcases hh with ⟨rfl, dd, n, rfl, hdd, q1⟩ | ⟨rfl, rfl, q1⟩
    · exact ⟨true, T.eS, fun _ a na => .inl ⟨rfl, dd, n, rfl, ⟨_, rfl⟩, hdd, q1⟩, fun z => nomatch z⟩
    · exact ⟨true, T.eU, fun _ a na => .inr ⟨rfl, rfl, ⟨_, rfl⟩, q1⟩, fun z => nomatch z⟩
/-! ### a lambda made: the maker's table grows, all else is kept -/
def LamN (Pl : Addr) (H H' : Hp) : Prop := ∀ b o, b ≠ Pl → H b = some o → H' b = some o
theorem lam_new {X : Cx} {pins : List (Addr × Obj)} {σ : L2.St} {H : Hp} {s : Shared} {Pl c : Addr} {ar : Arguments} {bd : Expr} {sc : Scope} {at_ : Pos} {EE : Value → Shared → Prop} {QQ : Value → Shared → Prop} (J : Inv X pins σ H s) (TB : LamX.TabB X.base X.mg c Pl) (hc : X.env.code = .ref c)
    (hT : LamX.TabS H Pl (X.env.qual ++ "<lambda>")) (hd : defaultsOf ar X.env = ([], [])) (hfr : ∀ y ∈ sc.names, y.2 = .free → ∃ c, X.env.cells.lookup y.1 = some c)
    (key : ∀ (f c' : Addr) (pm ctv : Value) (H1 : Hp) (s' : Shared), Inv X pins σ H1 s' → LamN Pl H H1 → LamX.TabS H1 Pl (X.env.qual ++ "<lambda>") →
      s'.heap.get? f = some (PySem.W.kla_obj "<lambda>" (X.env.qual ++ "<lambda>") ar bd sc (cloFrom X.env.cells sc.names []) pm c' ctv) → H1 f = none → f ∉ frs X.stack → H1 c' = some (LamX.CodeO c' (X.env.qual ++ "<lambda>")) → QQ (.ref f) s') :
    wpAny (model X.prog X.w) X.A (eval (.Lambda ar bd sc at_) X.env) QQ EE s := by
  obtain ⟨tb, hP, htr, hal⟩ := hT
  refine PySem.W.kla_eval hd ?_
  have bP := TB.bm.keeps J.bk
  have hP' : s.heap.get? Pl = some { cls := .none, data := .fields tb } := J.hok Pl _ hP
  have nofr : ∀ f, s.heap.objs.size ≤ f → f ∉ frs X.stack := fun f hf z => by
    rcases List.mem_cons.mp (J.stkSub _ z) with e | e
    · have l1 := J.lt
      rw [← e] at l1
      exact Nat.lt_irrefl _ (Nat.lt_of_lt_of_le l1 hf)
    · exact J.nofs hf e
  cases hk : codeAmong at_ tb.toList with
  | none =>
    refine PySem.W.kla_makeFunction (mg := X.mg) (c := c) (P := Pl) (ps := tb) (closure_ok hfr) J.ok.glob (J.mod.glob.keeps J.bk) hc (TB.code.keeps J.bk) hP' htr hk TB.gP bP fun c' ctv h' tk hx hge hlt hrec htb => ?_
    obtain ⟨c2, oc, vs, t, e2, hoc, hdd, hv⟩ := hrec
    cases e2
    have hsz := Nat.le_trans hge (Nat.le_of_lt hlt)
    have nC : H c' = none := J.hok.fresh hge
    have nPc : Pl ≠ c' := ne_of_none hP nC
    have J1 := LamX.inv_table (q := X.env.qual ++ "<lambda>") (t' := tk) (more := #[rawInt at_.line, rawInt at_.col, .ref c']) (h' := h'.push (PySem.W.kla_obj "<lambda>" (X.env.qual ++ "<lambda>") ar bd sc (cloFrom X.env.cells sc.names []) ((X.mg "__name__").getD .none) c' ctv)) J hP
      (fun b o hb e => Heap.get?_push_of_some _ (hx b o hb e)) (Heap.get?_push_of_some _ htb) hge ⟨oc, vs, t, Heap.get?_push_of_some _ hoc, hdd, hv⟩
    have eL : (tb ++ #[rawInt at_.line, rawInt at_.col, .ref c']).toList = tb.toList ++ [rawInt at_.line, rawInt at_.col, .ref c'] := by simp
    refine key h'.objs.size c' ((X.mg "__name__").getD .none) ctv _ _ J1 (fun b o hb e => by rw [upd_ne (ne_of_none e nC), upd_ne hb]; exact e) ⟨_, by rw [upd_ne nPc, upd_same], by rw [eL]; exact PySem.TriplesOk_snoc _ _ _ _ htr, fun p' cv hcv => ?_⟩ (Heap.get?_push_size _ rfl) ?_ (nofr _ hsz) upd_same
    · rw [eL] at hcv
      rcases LamX.among_app _ htr hcv with z | z
      · obtain ⟨c0, e1, e2⟩ := hal p' cv z
        refine ⟨c0, e1, ?_⟩
        rw [upd_ne (ne_of_none e2 nC), upd_ne (fun z => LamX.codeO_ne (c := c0) (q := X.env.qual ++ "<lambda>") tb (Option.some.inj (e2.symm.trans (by rw [z]; exact hP))))]
        exact e2
      · exact ⟨c', z, upd_same⟩
    · rw [upd_ne (Nat.ne_of_gt hlt), upd_ne (Nat.ne_of_gt (Nat.lt_of_lt_of_le (Heap.lt_size hP') hsz))]
      exact J.hok.fresh hsz
  | some cv =>
    obtain ⟨c', e, hco⟩ := hal at_ cv hk
    subst e
    refine PySem.W.kla_makeFunctionHit (mg := X.mg) (c := c) (P := Pl) (ps := tb) (closure_ok hfr) J.ok.glob (J.mod.glob.keeps J.bk) hc (TB.code.keeps J.bk) hP' htr hk bP fun ctv h' tk hx hsz => ?_
    have J1 : Inv X pins σ H { s with heap := h'.push (PySem.W.kla_obj "<lambda>" (X.env.qual ++ "<lambda>") ar bd sc (cloFrom X.env.cells sc.names []) ((X.mg "__name__").getD .none) c' ctv), toks := tk } := J.kept fun b o e => Heap.get?_push_of_some _ (hx b o e)
    exact key h'.objs.size c' ((X.mg "__name__").getD .none) ctv H _ J1 (fun _ _ _ e => e) ⟨tb, hP, htr, hal⟩ (Heap.get?_push_size _ rfl) (J.hok.fresh hsz) (nofr _ hsz) hco
def tLamP (Pl : Addr) (q : Str) (TT : (XK → Hp → VK → Prop) → Hp → VK → Prop) (t : XK → TE) : TE := fun σ H Q => LamX.TabS H Pl q ∧ ∀ H1, LamN Pl H H1 → LamX.TabS H1 Pl q → TT (fun E H' Q' => t E σ H' Q') H1 Q
/-- told(lambda: body) -/
theorem pe_told {X : Cx} {TT : (XK → Hp → VK → Prop) → Hp → VK → Prop} {x a q : Str} {g c Pl : Addr} {k j : Nat} {st : Stmt} {fd : FuncData} {Ng : List Str}
    {ar : Arguments} {bd : Expr} {sc : Scope} {t : XK → TE} {p lp pos : Pos} (F : L2.Fun X.K x x st g fd) (hm : X.mg x = some (.ref g)) (hb : L2.Binds X.K fd [a] []) (Sg : FnScope Ng [a] (defScope st)) (hNg : Ng[0]? = some a) (hva : Vis (defScope st) a)
    (hq : X.env.qual ++ "<lambda>" = q) (hG : ∀ cdv, LamX.GivesTo X Ng x (defScope st) g cdv (defBody st) a q TT)
    (TB : LamX.TabB X.base X.mg c Pl) (hc : X.env.code = .ref c) (hr : Room j X.A) (L : LamX.LamS X.env.scope sc) (hd : defaultsOf ar X.env = ([], []))
    (hbind : ∀ (q : Str) (cl : List (Str × Addr)) (pm cv ctv : Value), bindArgs (PySem.W.kla_fn "<lambda>" q ar bd sc cl pm cv ctv) ⟨[], []⟩ = pure [])
    (hbody : ∀ (A : Around) (outer : List Env) (s : Shared) (H : Hp) (E : XK) (f c' : Addr), Room k (A.deeper (LamX.lamEnv X sc s.heap.objs.size f c')) → PE (LamX.lamCx X A outer s H E sc f c') bd (t E)) (hkj : k + 2 ≤ j)
    (hg : Gl X x := by rfl) (hdb : (x == ("__debug__" : Str)) = false := by decide) (hdd : (a == ("__debug__" : Str)) = false := by decide) (hcd : (a == ("__classdict__" : Str)) = false := by decide) :
    PE X (.Call (.Name x p) [.Lambda ar bd sc lp] [] pos) (tLamP Pl q TT t) := by
  subst hq
  obtain ⟨oc, od, kV, doc, pm, an, cdv, ct, osl, rfl, lk, hcg⟩ := F.ex
  refine ⟨fun pins s0 σ0 H0 Q0 J h => ?_⟩
  obtain ⟨hT, h2⟩ := h
  refine wpAny_Call_Name_kw (ld_glob J hg hm ?_ hdb)
  refine PySem.W.callWith_K (h₀ := X.base) J.ok.mod.kin F.kp ?_ (by rfl) (by rfl)
  show wpAny _ _ (spliced ((false, eval (.Lambda ar bd sc lp) X.env) :: backTo pos (starEach [] X.env))) _ _ s0
  refine Calls.spliced_cons (lam_new J TB hc hT hd (L.has J.ok) fun lf c' pm' ctv H1 s' J1 eN T1 hlf hfn hnf hco => ?_)
  refine Calls.spliced_nil ⟨J1.kIn, ?_⟩
  have rc : codeAny (model X.prog X.w) X.A (.call (.ref g) ⟨[.ref lf], []⟩) (CR C8.CX0 X.stack X.prog X.w H1 s' Q0 C8.E0) s' := by
    refine LamX.run_ofS (k := k + 1) (N := Ng) (ps := [a]) (us := [.ref lf]) (vs := [.ref lf]) lk hcg Sg (hr.mono hkj) J1.env0 (hb s' [.ref lf] J1.kIn rfl) (.cons rfl .nil) rfl fun hr1 => ?_
    obtain ⟨t1, ht1, hq1⟩ := hG cdv lf c' s' H1 Q0 (fun E H' Q' => t E σ0 H' Q') (fun W pn xe E p1 p2 tk hW => LamX.pe_act (i := 0) J1 L hlf hfn hnf (hbind _ _ _ _ _) tk hW hr1 (fun A outer s H hr2 => hbody A outer s H E lf c' hr2) hNg hva hdd hcd) hco (h2 H1 eN T1)
    exact ⟨t1, ht1.nox, hq1⟩
  refine wpAny_call (codeAny_mono rc fun fr s2 hfr => ?_)
  cases fr with
  | error e => exact (show False from hfr).elim
  | ok fl => cases fl with
    | ret u => exact J1.after hfr
    | next => exact hfr.elim
    | brk => exact hfr.elim
    | cont => exact hfr.elim

end M10
set_option Elab.async false
set_option linter.all false
set_option maxRecDepth 100000
set_option maxHeartbeats 4000000
namespace M10
open PySem PySem.Spec PyProof.Rows L2 Evl
/-! ### points -/
theorem hu65 {k : Nat} {A : Around} (r : Room k A) : A.units + 65 < cLine := by
  have := r.un
  omega
theorem hu64 {k : Nat} {A : Around} (r : Room k A) : A.units + 64 < cLine := by
  have := r.un
  omega
abbrev Pt : Type := Str × Int
/-- the point p stands at x -/
def PtAt (H : Hp) (x : V) (p : Pt) : Prop := ∃ a, x = .ref a ∧ H a = some (.tup [.str p.1, .int p.2])
theorem PtAt.mono {H H' : Hp} {x : V} {p : Pt} (h : PtAt H x p) (e : Tx H H') : PtAt H' x p := by
  obtain ⟨a, e1, e2⟩ := h
  exact ⟨a, e1, e _ _ e2⟩
def pD (p : Pt) : PyData := .tuple [.str p.1, .int p.2]
theorem pD_eqv (p q : Pt) : PyData.eqv (pD p) (pD q) = decide (p = q) := by
  obtain ⟨a, b⟩ := p
  obtain ⟨c, d⟩ := q
  have e : PyData.eqv (pD (a, b)) (pD (c, d)) = ((a == c) && (((b == d)) && true)) := by simp only [pD, PyData.eqv, PyData.eqvAll]
  rw [e]
  by_cases h1 : a = c
  · by_cases h2 : b = d
    · subst h1 h2
      simp
    · have : ((a, b) : Pt) ≠ (c, d) := fun z => h2 (congrArg Prod.snd z)
      simp [h2]
  · have : ((a, b) : Pt) ≠ (c, d) := fun z => h1 (congrArg Prod.fst z)
    simp [h1]
theorem nm8_strOk : ∀ f ∈ nm8, PyData.strOk f = true := by decide +kernel
theorem pD_lay {p : Pt} (h : PyData.strOk p.1 = true) : (pD p).canLay0 = true := by
  simp only [pD, PyData.canLay0, PyData.canLayAll0, h, Bool.and_true]
theorem pDs_lay : ∀ {ps : List Pt}, (∀ p ∈ ps, PyData.strOk p.1 = true) → PyData.canLayAll0 (ps.map pD) = true
  | [], _ => rfl
  | p :: ps, h => by
    simp only [List.map_cons, PyData.canLayAll0]
    rw [pD_lay (h p List.mem_cons_self), pDs_lay fun q hq => h q (List.mem_cons_of_mem _ hq)] <;> rfl
theorem pD_depth (p : Pt) : (pD p).depth = 1 := by simp [pD, PyData.depth, PyData.depthAll]
theorem pDs_depth : ∀ ps : List Pt, PyData.depthAll (ps.map pD) ≤ 1
  | [] => by simp [PyData.depthAll]
  | p :: ps => by
    have h1 := pD_depth p
    have h2 := pDs_depth ps
    simp only [List.map_cons, PyData.depthAll]
    omega
theorem pD_shaped {p : Pt} (h : PyData.strOk p.1 = true) : SeqAt.shaped (pD p) = true := by
  show ((pD p).canLay0 && decide ((pD p).depth ≤ 64)) = true
  rw [pD_lay h, pD_depth] <;> rfl
theorem pDs_shaped {ps : List Pt} (h : ∀ p ∈ ps, PyData.strOk p.1 = true) : SeqAt.shaped (.list (ps.map pD)) = true := by
  have h1 := pDs_depth ps
  have h2 : PyData.depth (.list (ps.map pD)) ≤ 64 := by
    simp only [PyData.depth]
    omega
  show (PyData.canLay0 (.list (ps.map pD)) && decide (PyData.depth (.list (ps.map pD)) ≤ 64)) = true
  rw [decide_eq_true h2, Bool.and_true]
  simp only [PyData.canLay0]
  exact pDs_lay h
theorem PtAt.dp {K : PySem.W.Frag} {H : Hp} {x : V} {p : Pt} (h : PtAt H x p) : Dp K H x (pD p) := by
  obtain ⟨a, rfl, h⟩ := h
  exact .tup (SqT.of h) (.cons (.str _) (.cons (.int _) .nil))
theorem PtsAt.dp {K : PySem.W.Frag} {H : Hp} : ∀ {xs : List V} {ps : List Pt}, Paired (PtAt H) xs ps → DpAll K H xs (ps.map pD)
  | _, _, .nil => .nil
  | _, _, .cons r t => .cons r.dp (PtsAt.dp t)
/-- the body, the number of late numbers -/
def bdy (pr : List Fun3) (f : Str) : Tr := match atN f pr with
  | q :: _ => q.2.2
  | [] => .nil
def mny (pr : List Fun3) (f : Str) : Int := match atN f pr with
  | q :: _ => q.2.1
  | [] => 0
theorem bdy_eq {pr rs : List Fun3} {f : Str} {q : Fun3} (h : atN f pr = q :: rs) : bdy pr f = q.2.2 := by
  unfold bdy
  rw [h]
theorem mny_eq {pr rs : List Fun3} {f : Str} {q : Fun3} (h : atN f pr = q :: rs) : mny pr f = q.2.1 := by
  unfold mny
  rw [h]
/-- a point's name is a function of the program -/
def InP (pr : List Fun3) (p : Pt) : Prop := ∃ m, (p.1, m) ∈ nsOf pr
theorem WfPr.nm {pr : List Fun3} (w : WfPr pr) : ∀ p ∈ nsOf pr, p.1 ∈ nm8 := fun p hp => by
  obtain ⟨q, hq, rfl⟩ := List.mem_map.mp hp
  exact (w.ok q hq).1
theorem InP.nm {pr : List Fun3} (w : WfPr pr) {p : Pt} (h : InP pr p) : p.1 ∈ nm8 := by
  obtain ⟨m, h⟩ := h
  exact w.nm (p.1, m) h
theorem InP.str {pr : List Fun3} (w : WfPr pr) {p : Pt} (h : InP pr p) : PyData.strOk p.1 = true := nm8_strOk _ (h.nm w)
def spCalled : Sp := fun vs H Q _ => ∃ (p a : Addr) (xs : List V) (pr : List Fun3) (f : Str) (k : Int), vs = [.ref p, .ref a] ∧ H p = some (.tup xs) ∧ F3s H xs pr ∧ WfPr pr ∧ H a = some (.tup [.str f, .int k]) ∧ InP pr (f, k) ∧ 0 ≤ k ∧ k ≤ 800000 ∧
  ∀ H' l ys ps, Ex H H' → H l = none → H' l = some (.lst ys) → Paired (PtAt H') ys ps → ps.length ≤ 600 → (∀ q ∈ ps, InP pr q ∧ 0 ≤ q.2 ∧ q.2 ≤ k + 5) → (∀ x ∈ ((bdy pr f).left k).cns, ∃ q ∈ ps, x = nmk q.1 q.2) → Q (.ref l) H'
theorem Paired.perm {α β : Type} {F : α → β → Prop} {l l' : List α} (h : l'.Perm l) : ∀ {m : List β}, Paired F l m → ∃ m' : List β, Paired F l' m' ∧ m'.Perm m := by
  induction h with
  | nil => exact fun h => ⟨_, h, List.Perm.refl _⟩
  | cons x h ih =>
    intro m hp
    cases hp with
    | cons r t =>
      obtain ⟨m', h1, h2⟩ := ih t
      exact ⟨_, .cons r h1, h2.cons _⟩
  | swap x y l =>
    intro m hp
    cases hp with
    | cons r t =>
      cases t with
      | cons r2 t2 => exact ⟨_, .cons r2 (.cons r t2), List.Perm.swap ..⟩
  | trans h1 h2 i1 i2 =>
    intro m hp
    obtain ⟨m1, a1, a2⟩ := i2 hp
    obtain ⟨m2, b1, b2⟩ := i1 a1
    exact ⟨m2, b1, b2.trans a2⟩
section
variable {P : Program} {w : World} {K : PySem.W.Frag} {mg : Str → Option Value} {base : Heap}
theorem sc_law_called : FnScope ["_law_program_here", "_law_point", "_law_found", "_law_call", "_law_name_here", "_law_number"] ["_law_program_here", "_law_point"] (defScope s_law_called) := ⟨rfl, rfl, rfl, by decide +kernel, rfl, by decide +kernel, by decide +kernel⟩
theorem ok_l_called (D : Dd K mg "_law_called" s_law_called ["_law_program_here", "_law_point"]) (T : Tb K mg) (c_l_body : Dn P w K mg base L2.CX0 1 "_law_body" spBody) (c_l_left : Dn P w K mg base L2.CX0 42 "_law_left" (spLeft 12))
    (c_l_calls : Dn P w K mg base L2.CX0 13 "_law_calls" (spCalls 12)) : Dn P w K mg base L2.CX0 43 "_law_called" spCalled := by
  refine D.ok sc_law_called (fun vs H Q E h => by obtain ⟨p, a, xs, pr, f, k, rfl, _⟩ := h; rfl) (fun f cdv A outer s H vs Q E hr h => ?_)
  obtain ⟨p, a, xs, pr, f, k, rfl, hp, hF, hW, ha, hin, k0, k1, q⟩ := h
  refine ⟨_, (pss_cons (sset 2 sc_law_called.nd (pe_lst pa_nil))
    (pss_cons (ps_for PassesOwn.never rfl (pi_list (pe_c0 c_l_calls hr (pa_cons (pe_c0 c_l_left hr (pa_cons (pe_c0 c_l_body hr (pa_cons (pv 0) (pa_cons (pe_ix ix_tup (pv 1) pe_int (fun _ _ => rfl)) pa_nil))) (pa_cons (pe_ix ix_tup (pv 1) pe_int (fun _ _ => rfl)) pa_nil))) pa_nil))) (gnm 3 sc_law_called.nd) (pss_cons (ps_asg (pe_split (pe_ix ix_tup (pv 3) pe_int (fun _ _ => rfl)) pe_str) (pg_lst rfl (pgs_cons (gnm 4 sc_law_called.nd) (pgs_cons (gnm 5 sc_law_called.nd) pgs_nil))))
    (pss_one (sset 2 sc_law_called.nd (pe_op op_cat (pv 2) (pe_op op_rep (pe_lst (pa_cons (pe_tup (pa_cons (pv 4) (pa_cons (pct call_int_str T.int (pa_cons (pv 5) pa_nil)) pa_nil))) pa_nil)) (pct call_int1 T.int (pa_cons (pe_cmpR (op_notInD (hu65 hr)) (pe_tup (pa_cons (pv 4) (pa_cons (pct call_int_str T.int (pa_cons (pv 5) pa_nil)) pa_nil))) (pv 2) rfl) pa_nil))))))))
    (pss_one (ps_ret (pcb cr_sortSI T.sorted (pa_cons (pv 2) pa_nil)))))), ?_⟩
  obtain ⟨m, hm⟩ := id hin
  obtain ⟨q0, rs, hat⟩ := atN_ne hm
  obtain ⟨hq0, hq1⟩ := atN_mem hat
  obtain ⟨w1, w2, w3, w4, w5, w6⟩ := hW.ok q0 hq0
  have hl4 := hW.len
  have hlx := hF.length
  refine ⟨z0, ?_⟩
  intro l hp_l
  generalize hG_l : upd _ l _ = H1
  obtain ⟨x1, g1⟩ := nw hp_l hG_l
  have kT : k ≤ TOP := Int.le_trans k1 (by decide)
  have LKq := left_ok (by omega) k0 kT w4 (by simp)
  rw [bdy_eq hat] at q
  refine ⟨_, rfl, _, rfl, a, _, _, _, rfl, rfl, SqT.of (x1 _ _ ha), rfl, p, xs, pr, rs, q0, f, rfl, x1 _ _ hp, hF.mono (Tx.of x1), by omega, hat, fun H2 v x2 d2 => ?_⟩
  have x12 := x1.trans x2
  refine ⟨_, rfl, a, _, _, _, rfl, rfl, SqT.of (x12 _ _ ha), rfl, q0.2.2, v, k, nsOf pr, q0.2.1, rfl, d2, w4, w3, k0, by omega, hW.nm, w5, w6, fun H3 v3 x3 d3 => ?_⟩
  have x13 := x12.trans x3
  have wt3 := LKq.wt
  have ht3 := LKq.ht
  refine ⟨_, _, .e, v3, rfl, d3, LKq.pf, by simp, by omega, by omega, fun H4 l2 cs x4 hl2 hC => ?_⟩
  have x14 := x13.trans x4
  have hcl := cns_wt LKq.pf
  have hcs := hC.length
  refine ⟨l2, rfl, ⟨_, SqL.of hl2⟩, ?_⟩
  refine for_list (K := K) (a := l2) (xs := cs) (fun i σ' H' => ∃ l3 ys ps v3 v4 v5, σ' = [some (.ref p), some (.ref a), some (.ref l3), v3, v4, v5] ∧ Ex H4 H' ∧ H' l3 = some (.lst ys) ∧ Paired (PtAt H') ys ps ∧ ps.length ≤ i ∧
      (∀ q ∈ ps, InP pr q ∧ 0 ≤ q.2 ∧ q.2 ≤ k + 5) ∧ (∀ x ∈ (((q0.2.2).left k).cns.take i), ∃ q ∈ ps, x = nmk q.1 q.2))
    ⟨l, [], [], _, _, _, rfl, Ex.refl _, ((x2.trans x3).trans x4) _ _ g1, .nil, Nat.le_refl _, fun q hq => absurd hq List.not_mem_nil, fun x hx => by simp at hx⟩ ?_ ?_ ?_
  · rintro i _ H' _ ⟨_, _, _, _, _, _, _, x5, _⟩
    exact SqL.of (x5 _ _ hl2)
  · rintro i y _ H5 hy ⟨l3, ys, ps, v3, v4, v5, rfl, x5, hl3, hP, hlen, hok, hall⟩
    obtain ⟨nm, hnm, b, u, rfl, hb⟩ := Paired.at_ hC hy
    obtain ⟨g, m2, j, rfl, hg, j0, j1⟩ := Pf.of_cns LKq.pf nm (List.mem_of_getElem? hnm)
    have hg8 : g ∈ nm8 := hW.nm _ hg
    have hj2 : j ≤ 1000000 := by omega
    have hi : i < cs.length := (List.getElem?_eq_some_iff.mp hy).1
    have hnl := nmk_len hg8 j0 hj2
    have hsp := nmk_split hg8 j0
    have hni := nmk_int j0 hj2
    have hnl2 := num_len j0 hj2
    have hu1 : usc.length = 1 := by decide +kernel
    refine ⟨_, rfl, b, _, _, _, rfl, rfl, SqT.of (x5 _ _ hb), rfl, ⟨_, rfl⟩, _, _, rfl, rfl, by rw [hu1] <;> rfl, sz (by omega), ?_⟩
    rw [hsp]
    intro p6 hp_p6
    generalize hG_p6 : upd _ p6 _ = H6
    obtain ⟨x6, g6⟩ := nw hp_p6 hG_p6
    refine ⟨p6, _, rfl, SqL.of g6, rfl, _, _, rfl, _, _, rfl, rfl, ?_⟩
    refine ⟨_, rfl, _, rfl, _, rfl, _, _, rfl, hni, by omega, z2, ?_⟩
    intro p7 hp_p7
    generalize hG_p7 : upd _ p7 _ = H7
    obtain ⟨x7, g7⟩ := nw hp_p7 hG_p7
    refine ⟨z1, ?_⟩
    intro p8 hp_p8
    generalize hG_p8 : upd _ p8 _ = H8
    obtain ⟨x8, g8⟩ := nw hp_p8 hG_p8
    refine ⟨_, rfl, _, rfl, _, _, rfl, hni, by omega, z2, ?_⟩
    intro p9 hp_p9
    generalize hG_p9 : upd _ p9 _ = H9
    obtain ⟨x9, g9⟩ := nw hp_p9 hG_p9
    have x69 := ((x6.trans x7).trans x8).trans x9
    have hP9 : Paired (PtAt H9) ys ps := L2.Paired.mapP hP fun _ _ h => h.mono (Tx.of x69)
    refine ⟨_, rfl, pD (g, j), ps.map pD, PtAt.dp ⟨p9, rfl, g9⟩, .lst (SqL.of (x69 _ _ hl3)) (PtsAt.dp hP9), pD_shaped (nm8_strOk _ hg8), pDs_shaped fun z hz => (hok z hz).1.str hW, ?_⟩
    generalize hb0 : (!((ps.map pD).any fun z => PyData.eqv z (pD (g, j)))) = bb
    refine .inr ⟨_, rfl, ?_⟩
    have hcs2 := hP.length
    have hnm2 : ∀ x ∈ ((q0.2.2).left k).cns.take (i + 1), x ∈ ((q0.2.2).left k).cns.take i ∨ x = nmk g j := fun x hx => by
      rw [take_snoc hnm] at hx
      rcases List.mem_append.mp hx with hx | hx
      · exact .inl hx
      · exact .inr (List.mem_singleton.mp hx)
    cases bb with
    | false =>
      have hmem : (g, j) ∈ ps := by
        have h1 : ((ps.map pD).any fun z => PyData.eqv z (pD (g, j))) = true := by simpa using hb0
        obtain ⟨z, hz, he⟩ := List.any_eq_true.mp h1
        obtain ⟨r, hr1, rfl⟩ := List.mem_map.mp hz
        rw [pD_eqv] at he
        rw [← of_decide_eq_true he]
        exact hr1
      refine ⟨p8, 0, [.ref p7], rfl, rfl, x9 _ _ g8, by decide, by decide, sz (by show 1 * 0 ≤ _; omega), ?_⟩
      intro p10 hp_p10
      generalize hG_p10 : upd _ p10 _ = H10
      obtain ⟨x10, g10⟩ := nw hp_p10 hG_p10
      have hg10 : H10 p10 = some (.lst []) := g10
      have x610 := x69.trans x10
      refine ⟨l3, p10, ys, [], rfl, rfl, x610 _ _ hl3, hg10, sz (by show ys.length + 0 ≤ _; omega), ?_⟩
      intro p11 hp_p11
      generalize hG_p11 : upd _ p11 _ = H11
      obtain ⟨x11, g11⟩ := nw hp_p11 hG_p11
      have x611 := x610.trans x11
      refine ⟨p11, ys, ps, _, _, _, rfl, x5.trans x611, by rw [g11, List.append_nil], L2.Paired.mapP hP fun _ _ h => h.mono (Tx.of x611), by omega, hok, fun x hx => ?_⟩
      rcases hnm2 x hx with hx | rfl
      · exact hall x hx
      · exact ⟨_, hmem, rfl⟩
    | true =>
      refine ⟨p8, 1, [.ref p7], rfl, rfl, x9 _ _ g8, by decide, by decide, sz (by show 1 * 1 ≤ _; omega), ?_⟩
      intro p10 hp_p10
      generalize hG_p10 : upd _ p10 _ = H10
      obtain ⟨x10, g10⟩ := nw hp_p10 hG_p10
      have hg10 : H10 p10 = some (.lst [.ref p7]) := g10
      have x610 := x69.trans x10
      refine ⟨l3, p10, ys, [.ref p7], rfl, rfl, x610 _ _ hl3, hg10, sz (by show ys.length + 1 ≤ _; omega), ?_⟩
      intro p11 hp_p11
      generalize hG_p11 : upd _ p11 _ = H11
      obtain ⟨x11, g11⟩ := nw hp_p11 hG_p11
      have x611 := x610.trans x11
      refine ⟨p11, ys ++ [.ref p7], ps ++ [(g, j)], _, _, _, rfl, x5.trans x611, g11, Paired.snoc ⟨p7, rfl, (((x8.trans x9).trans x10).trans x11) _ _ g7⟩ (L2.Paired.mapP hP fun _ _ h => h.mono (Tx.of x611)), by rw [List.length_append, List.length_singleton]; omega, fun r hr1 => ?_, fun x hx => ?_⟩
      · rcases List.mem_append.mp hr1 with hr1 | hr1
        · exact hok r hr1
        · rw [List.mem_singleton.mp hr1]
          exact ⟨⟨m2, hg⟩, j0, j1⟩
      · rcases hnm2 x hx with hx | rfl
        · obtain ⟨r, h1, h2⟩ := hall x hx
          exact ⟨r, List.mem_append_left _ h1, h2⟩
        · exact ⟨_, List.mem_append_right _ List.mem_cons_self, rfl⟩
  · rintro _ H5 ⟨l3, ys, ps, v3, v4, v5, rfl, x5, hl3, hP, hlen, hok, hall⟩
    rw [List.take_of_length_le (by omega)] at hall
    refine ⟨_, rfl, l3, ys, rfl, SqL.of hl3, fun z hz => ?_, fun zs p6 hperm hp6 => ?_⟩
    · obtain ⟨r, _, t, e, ht⟩ := Paired.mem hP hz
      exact ⟨t, _, _, e, ht⟩
    · obtain ⟨qs, hQ, hqp⟩ := Paired.perm hperm hP
      have x6 := Ex.new (o := .lst zs) hp6
      exact q _ p6 zs qs ((x14.trans x5).trans x6) (fresh_back (x14.trans x5) hp6) upd_same (L2.Paired.mapP hQ fun _ _ h => h.mono (Tx.of x6)) (by rw [hqp.length_eq]; omega) (fun r hr2 => hok r (hqp.mem_iff.mp hr2)) fun x hx => by
        obtain ⟨r, h1, h2⟩ := hall x hx
        exact ⟨r, hqp.mem_iff.mpr h1, h2⟩
end

end M10
set_option Elab.async false
set_option linter.all false
set_option maxRecDepth 100000
set_option maxHeartbeats 4000000
namespace M10
open PySem PySem.Spec PyProof.Rows L2 Evl
/-! ### the points met -/
def kt (p : Pt) : List Key := [.inr p.1, .inl p.2]
theorem kt_inj {p q : Pt} (h : kt p = kt q) : p = q := by
  obtain ⟨a, b⟩ := p
  obtain ⟨c, d⟩ := q
  simp only [kt, List.cons.injEq, Sum.inr.injEq, Sum.inl.injEq] at h
  rw [h.1, h.2.1]
theorem Tx.put {H : Hp} {a : Addr} {o o' : HO} (h : H a = some o) (ho : ∀ xs, o ≠ .tup xs) : Tx H (upd H a o') := fun b xs hb => by
  rw [upd_ne (fun z => by
    rw [z, h] at hb
    exact ho xs (Option.some.inj hb))]
  exact hb
theorem Ex.put {H H' : Hp} {a : Addr} {o : HO} (e : Ex H H') (h : H a = none) : Ex H (upd H' a o) := fun b u hb => by
  rw [upd_ne (ne_of_none hb h)]
  exact e b u hb
theorem put_keys {κ : Type} [DecidableEq κ] {kvs : List (κ × V)} {k : κ} {v : V} (h : valV kvs k = none) : (putK kvs k v).map (·.1) = kvs.map (·.1) ++ [k] := by
  rw [putK_new v h, List.map_append] <;> rfl
theorem val_none {κ : Type} [DecidableEq κ] {kvs : List (κ × V)} {k : κ} : valV kvs k = none ↔ k ∉ kvs.map (·.1) := by
  induction kvs with
  | nil => simp [valV_nil]
  | cons p r ih =>
    by_cases e : p.1 = k
    · rw [valV_pos e]
      simp [e]
    · rw [valV_neg e, ih]
      simp only [List.map_cons, List.mem_cons, not_or]
      exact ⟨fun h => ⟨fun z => e z.symm, h⟩, fun h => h.2⟩
/-- what q calls is among ps -/
def Cl (pr : List Fun3) (ps : List Pt) (q : Pt) : Prop := ∀ x ∈ ((bdy pr q.1).left q.2).cns, ∃ r ∈ ps, x = nmk r.1 r.2
theorem Cl.mono {pr : List Fun3} {ps ps' : List Pt} {q : Pt} (h : Cl pr ps q) (hs : ∀ r ∈ ps, r ∈ ps') : Cl pr ps' q := fun x hx => by
  obtain ⟨r, h1, h2⟩ := h x hx
  exact ⟨r, hs r h1, h2⟩
structure WP (pr : List Fun3) (H H' : Hp) (fo d : Addr) (ps : List Pt) : Prop where
  ex : Ex H H'
  fo0 : H fo = none
  d0 : H d = none
  lst : ∃ ys, H' fo = some (.lst ys) ∧ Paired (PtAt H') ys ps
  dic : ∃ kvs, H' d = some (.dT kvs) ∧ kvs.map (·.1) = ps.map kt
  ok : ∀ q ∈ ps, InP pr q ∧ 0 ≤ q.2 ∧ q.2 ≤ 5 * (ps.length : Int) + 5
structure WI (pr : List Fun3) (H H' : Hp) (fo d m w : Addr) (ps0 ps mps wps : List Pt) (ws : List V) : Prop where
  wpt : Paired (PtAt H') ws wps
  wp : WP pr H H' fo d ps
  mor : ∃ ms, H' m = some (.lst ms) ∧ Paired (PtAt H') ms mps
  wal : H' w = some (.lst ws)
  sub0 : ∀ q ∈ ps0, q ∈ ps
  len : ps.length = ps0.length + mps.length
  subm : ∀ q ∈ mps, q ∈ ps
  all : ∀ q ∈ ps, q ∈ ps0 ∨ q ∈ mps
  m0 : H m = none
  nm : m ≠ fo
  nw : w ≠ fo
  nmw : m ≠ w
theorem WP.ex' {pr : List Fun3} {H H' H2 : Hp} {fo d : Addr} {ps : List Pt} (h : WP pr H H' fo d ps) (e : Ex H' H2) : WP pr H H2 fo d ps := by
  obtain ⟨ys, h1, h2⟩ := h.lst
  obtain ⟨kvs, h3, h4⟩ := h.dic
  exact ⟨h.ex.trans e, h.fo0, h.d0, ⟨ys, e _ _ h1, L2.Paired.mapP h2 fun _ _ h => h.mono (Tx.of e)⟩, ⟨kvs, e _ _ h3, h4⟩, h.ok⟩
theorem WI.ex' {pr : List Fun3} {H H' H2 : Hp} {fo d m w : Addr} {ps0 ps mps wps : List Pt} {ws : List V} (h : WI pr H H' fo d m w ps0 ps mps wps ws) (e : Ex H' H2) : WI pr H H2 fo d m w ps0 ps mps wps ws := by
  obtain ⟨ms, h1, h2⟩ := h.mor
  exact ⟨L2.Paired.mapP h.wpt fun _ _ h => h.mono (Tx.of e), h.wp.ex' e, ⟨ms, e _ _ h1, L2.Paired.mapP h2 fun _ _ h => h.mono (Tx.of e)⟩, e _ _ h.wal, h.sub0, h.len, h.subm, h.all, h.m0, h.nm, h.nw, h.nmw⟩
abbrev add3 (H' : Hp) (fo d m : Addr) (kvs : List (List Key × V)) (ys ms : List V) (r : Pt) (x : V) : Hp := upd (upd (upd H' d (.dT (putK kvs (kt r) (.bl true)))) fo (.lst (ys ++ [x]))) m (.lst (ms ++ [x]))
theorem add_tx {H' : Hp} {fo d m : Addr} {kvs : List (List Key × V)} {ys ms : List V} {r : Pt} {x : V} (nm : m ≠ fo) (hfo : H' fo = some (.lst ys)) (hd : H' d = some (.dT kvs)) (hm : H' m = some (.lst ms)) : Tx H' (add3 H' fo d m kvs ys ms r x) := by
  have nfd : fo ≠ d := fun z => by rw [z, hd] at hfo; cases hfo
  have nmd : m ≠ d := fun z => by rw [z, hd] at hm; cases hm
  have t1 : Tx H' (upd H' d (.dT (putK kvs (kt r) (.bl true)))) := Tx.put hd fun xs z => by cases z
  have g1 : (upd H' d (.dT (putK kvs (kt r) (.bl true)))) fo = some (.lst ys) := by rw [upd_ne nfd]; exact hfo
  have t2 : Tx (upd H' d (.dT (putK kvs (kt r) (.bl true)))) (upd (upd H' d (.dT (putK kvs (kt r) (.bl true)))) fo (.lst (ys ++ [x]))) := Tx.put g1 fun xs z => by cases z
  have g2 : (upd (upd H' d (.dT (putK kvs (kt r) (.bl true)))) fo (.lst (ys ++ [x]))) m = some (.lst ms) := by rw [upd_ne nm, upd_ne nmd]; exact hm
  exact (t1.trans t2).trans (Tx.put g2 fun xs z => by cases z)
theorem WI.add {pr : List Fun3} {H H' : Hp} {fo d m w : Addr} {ps0 ps mps wps : List Pt} {ws ys ms : List V} {kvs : List (List Key × V)} {r : Pt} {x : V} (h : WI pr H H' fo d m w ps0 ps mps wps ws)
    (hfo : H' fo = some (.lst ys)) (hd : H' d = some (.dT kvs)) (hm : H' m = some (.lst ms)) (hx : PtAt H' x r) (hn : valV kvs (kt r) = none) (hr : InP pr r ∧ 0 ≤ r.2 ∧ r.2 ≤ 5 * (ps.length : Int) + 10) :
    WI pr H (add3 H' fo d m kvs ys ms r x) fo d m w ps0 (ps ++ [r]) (mps ++ [r]) wps ws := by
  obtain ⟨ys', h1, h2⟩ := h.wp.lst
  obtain ⟨kvs', h3, h4⟩ := h.wp.dic
  obtain ⟨ms', h5, h6⟩ := h.mor
  rw [hfo] at h1
  rw [hd] at h3
  rw [hm] at h5
  cases h1
  cases h3
  cases h5
  have nfd : fo ≠ d := fun z => by rw [z, hd] at hfo; cases hfo
  have nmd : m ≠ d := fun z => by rw [z, hd] at hm; cases hm
  have nwd : w ≠ d := fun z => by have := h.wal; rw [z, hd] at this; cases this
  have t : Tx H' (add3 H' fo d m kvs ys ms r x) := add_tx h.nm hfo hd hm
  refine ⟨L2.Paired.mapP h.wpt fun _ _ h => h.mono t, ⟨Ex.put (Ex.put (Ex.put h.wp.ex h.wp.d0) h.wp.fo0) h.m0, h.wp.fo0, h.wp.d0, ⟨ys ++ [x], by unfold add3; rw [upd_ne h.nm.symm]; exact upd_same, Paired.snoc (hx.mono t) (L2.Paired.mapP h2 fun _ _ h => h.mono t)⟩,
      ⟨_, by unfold add3; rw [upd_ne nmd.symm, upd_ne nfd.symm]; exact upd_same, by rw [put_keys hn, h4, List.map_append] <;> rfl⟩, fun q hq => ?_⟩,
    ⟨ms ++ [x], upd_same, Paired.snoc (hx.mono t) (L2.Paired.mapP h6 fun _ _ h => h.mono t)⟩, by unfold add3; rw [upd_ne h.nmw.symm, upd_ne h.nw, upd_ne nwd]; exact h.wal, fun q hq => List.mem_append_left _ (h.sub0 q hq),
    by rw [List.length_append, List.length_append, h.len, Nat.add_assoc], fun q hq => ?_, fun q hq => ?_, h.m0, h.nm, h.nw, h.nmw⟩
  · rw [List.length_append, List.length_singleton]
    rcases List.mem_append.mp hq with hq | hq
    · have := h.wp.ok q hq
      exact ⟨this.1, this.2.1, by omega⟩
    · rw [List.mem_singleton.mp hq]
      exact ⟨hr.1, hr.2.1, by omega⟩
  · rcases List.mem_append.mp hq with hq | hq
    · exact List.mem_append_left _ (h.subm q hq)
    · exact List.mem_append_right _ hq
  · rcases List.mem_append.mp hq with hq | hq
    · rcases h.all q hq with z | z
      · exact .inl z
      · exact .inr (List.mem_append_left _ z)
    · exact .inr (List.mem_append_right _ hq)
def spPoints : Sp := fun vs H Q _ => ∃ (p a : Addr) (xs : List V) (pr : List Fun3) (f : Str) (k : Int), vs = [.ref p, .ref a, .int 16] ∧ H p = some (.tup xs) ∧ F3s H xs pr ∧ WfPr pr ∧ H a = some (.tup [.str f, .int k]) ∧ InP pr (f, k) ∧ 0 ≤ k ∧ k ≤ 5 ∧
  (∀ H', Ex H H' → Q .non H') ∧
  ∀ H' l ys ps, Ex H H' → H' l = some (.lst ys) → Paired (PtAt H') ys ps → ps.length ≤ 16 → (∀ q ∈ ps, InP pr q ∧ 0 ≤ q.2 ∧ q.2 ≤ 85) → (f, k) ∈ ps → (∀ q ∈ ps, Cl pr ps q) → Q (.ref l) H'
theorem eqv_nil (ps : List Pt) : PyData.eqv (.list (ps.map pD)) (.list []) = ps.isEmpty := by
  cases ps with
  | nil => simp [PyData.eqv, PyData.eqvAll]
  | cons a b => simp [PyData.eqv, PyData.eqvAll]
theorem nil_shaped : SeqAt.shaped (.list []) = true := by decide +kernel
section
variable {P : Program} {w : World} {K : PySem.W.Frag} {mg : Str → Option Value} {base : Heap}
theorem sc_law_points : FnScope ["_law_program_here", "_law_point", "_law_most", "_law_found", "_law_walk", "_law_seen", "_law_more", "_law_here", "_law_there"] ["_law_program_here", "_law_point", "_law_most"] (defScope s_law_points) := ⟨rfl, rfl, rfl, by decide +kernel, rfl, by decide +kernel, by decide +kernel⟩
theorem ok_l_points (D : Dd K mg "_law_points" s_law_points ["_law_program_here", "_law_point", "_law_most"]) (T : Tb K mg) (c_l_called : Dn P w K mg base L2.CX0 43 "_law_called" spCalled) : Dn P w K mg base L2.CX0 44 "_law_points" spPoints := by
  refine D.ok sc_law_points (fun vs H Q E h => by obtain ⟨p, a, xs, pr, f, k, rfl, _⟩ := h; rfl) (fun f cdv A outer s H vs Q E hr h => ?_)
  have hu : (A.deeper (envOfC "_law_points" (defScope s_law_points) s.heap.objs.size f cdv)).units + 1 < cLine := by
    have := hr.un
    omega
  obtain ⟨p, a, xs, pr, fn, k, rfl, hp, hF, hW, ha, hin, k0, k1, q0, q⟩ := h
  refine ⟨_, (pss_cons (ps_par (i := 3) (j := 4) (by rfl) sc_law_points.nd rfl rfl (by decide) rfl rfl (pa_cons (pe_lst (pa_cons (pv 1) pa_nil)) (pa_cons (pe_lst (pa_cons (pv 1) pa_nil)) pa_nil)) (by rfl))
    (pss_cons (sset 5 sc_law_points.nd pe_dnewT)
    (pss_cons (ps_dput hu (pv 5) (pv 1) pe_bl rfl)
    (pss_cons (ps_while PassesOwn.never (pt_cmpR (op_neD (hu64 hr)) (pv 4) (pe_lst pa_nil) (nomark _)) (pss_cons (sset 6 sc_law_points.nd (pe_lst pa_nil))
    (pss_cons (ps_for PassesOwn.never rfl (pi_list (pv 4)) (gnm 7 sc_law_points.nd) (pss_one (ps_for PassesOwn.never rfl (pi_list (pe_c0 c_l_called hr (pa_cons (pv 0) (pa_cons (pv 7) pa_nil)))) (gnm 8 sc_law_points.nd) (pss_one (ps_if (pt_cmp (pc_dnotin hu (pv 8) (pv 5))) (pss_cons (ps_dput hu (pv 5) (pv 8) pe_bl rfl)
    (pss_cons (ps_expr (pe_bm PySem.F.plainAttrs_list PySem.F.slot_list_append PySem.F.type_list_append mt_append (pv 3) (pa_cons (pv 8) pa_nil)))
    (pss_one (ps_expr (pe_bm PySem.F.plainAttrs_list PySem.F.slot_list_append PySem.F.type_list_append mt_append (pv 6) (pa_cons (pv 8) pa_nil)))))) pss_nil)))))
    (pss_cons (ps_if (pt_cmpR op_gt (pcb call_len_seq T.len (pa_cons (pv 3) pa_nil)) (pv 2) (nomark _)) (pss_one (ps_ret pe_non)) pss_nil)
    (pss_one (sset 4 sc_law_points.nd (pv 6)))))))
    (pss_one (ps_ret (pcb cr_sortSI T.sorted (pa_cons (pv 3) pa_nil)))))))), ?_⟩
  refine ⟨_, rfl, z1, ?_⟩
  intro fo hp_fo
  generalize hG_fo : upd _ fo _ = H1
  obtain ⟨x1, g1⟩ := nw hp_fo hG_fo
  refine ⟨_, rfl, z1, ?_⟩
  intro w0 hp_w0
  generalize hG_w0 : upd _ w0 _ = H2
  obtain ⟨x2, g2⟩ := nw hp_w0 hG_w0
  have nwf : w0 ≠ fo := (ne_of_none g1 hp_w0).symm
  refine ⟨_, _, rfl, ?_⟩
  intro d hp_d
  generalize hG_d : upd _ d _ = H3
  obtain ⟨x3, g3⟩ := nw hp_d hG_d
  have hfo0 : H fo = none := hp_fo
  have hd0 : H d = none := fresh_back (x1.trans x2) hp_d
  have hw00 : H w0 = none := fresh_back x1 hp_w0
  have x13 := (x1.trans x2).trans x3
  have ha3 := x13 _ _ ha
  refine ⟨_, rfl, _, rfl, d, _, rfl, DPut.t (k := kt (fn, k)) g3 ha3 (by show 0 < _; exact sz' (by decide)), ?_⟩
  have nfd : fo ≠ d := ne_of_none (x2 _ _ g1) hp_d
  have nwd : w0 ≠ d := ne_of_none g2 hp_d
  have t3 : Tx H3 (upd H3 d (.dT (putK [] (kt (fn, k)) (.bl true)))) := Tx.put g3 fun xs z => by cases z
  have hpt : PtAt (upd H3 d (.dT (putK [] (kt (fn, k)) (.bl true)))) (.ref a) (fn, k) := ⟨a, rfl, t3 _ _ ha3⟩
  refine ⟨fun m σ' H' => ∃ (w : Addr) (v6 v7 v8 : Option V) (ps wps : List Pt) (ws : List V), σ' = [some (.ref p), some (.ref a), some (.int 16), some (.ref fo), some (.ref w), some (.ref d), v6, v7, v8] ∧ WP pr H H' fo d ps ∧ ps.length ≤ 16 ∧
      m = 2 * (17 - ps.length) + (if wps = [] then 0 else 1) ∧ H' w = some (.lst ws) ∧ Paired (PtAt H') ws wps ∧ wps.length ≤ ps.length ∧ (∀ q ∈ wps, q ∈ ps) ∧ (∀ q ∈ ps, q ∈ wps ∨ Cl pr ps q) ∧ (fn, k) ∈ ps ∧ w ≠ fo ∧ H w = none, ?_, ?_⟩
  · refine ⟨_, w0, _, _, _, [(fn, k)], [(fn, k)], [.ref a], rfl, ⟨Ex.put x13 hd0, hfo0, hd0, ⟨[.ref a], by rw [upd_ne nfd]; exact x3 _ _ (x2 _ _ g1), .cons hpt .nil⟩, ⟨_, upd_same, rfl⟩, fun q hq => ?_⟩, by show 1 ≤ 16; decide, rfl, by rw [upd_ne nwd]; exact x3 _ _ g2, .cons hpt .nil, Nat.le_refl _, fun q hq => hq, fun q hq => .inl hq, List.mem_cons_self, nwf, hw00⟩
    rw [List.mem_singleton.mp hq]
    exact ⟨hin, k0, by show k ≤ 5 * ((1 : Nat) : Int) + 5; omega⟩
  rintro m _ H4 ⟨w, v6, v7, v8, ps, wps, ws, rfl, hWP, hlen, rfl, hw, hPw, hwl, hws, hcl, hst, nwf, hw0⟩
  refine ⟨_, rfl, z0, ?_⟩
  intro e5 hp_e5
  generalize hG_e5 : upd _ e5 _ = H5
  obtain ⟨x5, g5⟩ := nw hp_e5 hG_e5
  have hPw5 : Paired (PtAt H5) ws wps := L2.Paired.mapP hPw fun _ _ h => h.mono (Tx.of x5)
  refine ⟨.list (wps.map pD), .list [], .lst (SqL.of (x5 _ _ hw)) (PtsAt.dp hPw5), .lst (SqL.of g5) .nil, pDs_shaped fun z hz => (hWP.ok z (hws z hz)).1.str hW, nil_shaped, ?_⟩
  rw [eqv_nil]
  have hWP5 := hWP.ex' x5
  refine ⟨_, rfl, if2 (fun c => ?_) (fun c => ?_)⟩
  · have hne : wps ≠ [] := fun z => by rw [z] at c; cases c
    refine ⟨_, fun _ _ h => h, ?_⟩
    refine ⟨z0, ?_⟩
    intro m hp_m
    generalize hG_m : upd _ m _ = H6
    obtain ⟨x6, g6⟩ := nw hp_m hG_m
    have x56 := x5.trans x6
    have hw6 := x56 _ _ hw
    obtain ⟨ys5, hys5, _⟩ := id hWP5.lst
    have WI6 : WI pr H H6 fo d m w ps ps [] wps ws := ⟨L2.Paired.mapP hPw fun _ _ h => h.mono (Tx.of x56), hWP.ex' x56, ⟨[], g6, .nil⟩, hw6, fun q h => h, rfl, fun q h => absurd h List.not_mem_nil, fun q h => .inl h, fresh_back hWP5.ex hp_m,
      (ne_of_none hys5 hp_m).symm, nwf, (ne_of_none (x5 _ _ hw) hp_m).symm⟩
    refine ⟨_, rfl, w, rfl, ⟨_, SqL.of hw6⟩, ?_⟩
    refine for_list (K := K) (a := w) (xs := ws) (fun i σ' H' => ∃ (v7 v8 : Option V) (ps' mps : List Pt), σ' = [some (.ref p), some (.ref a), some (.int 16), some (.ref fo), some (.ref w), some (.ref d), some (.ref m), v7, v8] ∧ WI pr H H' fo d m w ps ps' mps wps ws ∧
        ps'.length ≤ 16 + i * 600 ∧ (∀ q ∈ wps.take i, Cl pr ps' q)) ⟨_, _, ps, [], rfl, WI6, by omega, fun q hq => by simp at hq⟩ ?_ ?_ ?_
    · rintro i _ H' _ ⟨_, _, _, _, _, h, _⟩
      exact SqL.of h.wal
    · rintro i y _ H7 hy ⟨v7, v8, ps', mps, rfl, hI, hlp, hC⟩
      obtain ⟨⟨g, j⟩, hq1, b, rfl, hb⟩ := Paired.at_ hI.wpt hy
      have hi : i < wps.length := (List.getElem?_eq_some_iff.mp hq1).1
      have hqm := hws _ (List.mem_of_getElem? hq1)
      have hqo := hWP.ok _ hqm
      have j1 : j ≤ 5 * (ps.length : Int) + 5 := hqo.2.2
      have hlp2 : ps.length ≤ ps'.length := by have := hI.len; omega
      refine ⟨_, rfl, _, rfl, p, b, xs, pr, g, j, rfl, hI.wp.ex _ _ hp, hF.mono (Tx.of hI.wp.ex), hW, hb, hqo.1, hqo.2.1, by omega, fun H8 l2 ys2 qs x8 hl20 hl2 hP2 hlq hqs hcn => ?_⟩
      have hI8 := hI.ex' x8
      obtain ⟨ys7, hys7, _⟩ := id hI.wp.lst
      obtain ⟨kvs7, hkv7, _⟩ := id hI.wp.dic
      obtain ⟨ms7, hms7, _⟩ := id hI.mor
      have n1 : l2 ≠ fo := (ne_of_none hys7 hl20).symm
      have n2 : l2 ≠ d := (ne_of_none hkv7 hl20).symm
      have n3 : l2 ≠ m := (ne_of_none hms7 hl20).symm
      have hl3 := hP2.length
      refine ⟨l2, rfl, ⟨_, SqL.of hl2⟩, ?_⟩
      refine for_list (K := K) (a := l2) (xs := ys2) (fun i2 σ' H' => ∃ (v8 : Option V) (ps2 mps2 : List Pt), σ' = [some (.ref p), some (.ref a), some (.int 16), some (.ref fo), some (.ref w), some (.ref d), some (.ref m), some (.ref b), v8] ∧ WI pr H H' fo d m w ps ps2 mps2 wps ws ∧
          ps2.length ≤ ps'.length + i2 ∧ (∀ q ∈ ps', q ∈ ps2) ∧ (∀ q ∈ qs.take i2, q ∈ ps2) ∧ H' l2 = some (.lst ys2) ∧ Paired (PtAt H') ys2 qs)
        ⟨_, ps', mps, rfl, hI8, Nat.le_refl _, fun q h => h, fun q hq => by simp at hq, hl2, hP2⟩ ?_ ?_ ?_
      · rintro i2 _ H' _ ⟨_, _, _, _, _, _, _, _, h, _⟩
        exact SqL.of h
      · rintro i2 y2 _ H9 hy2 ⟨v8, ps2, mps2, rfl, hI9, hlp9, hsub, htk, hl29, hP9⟩
        obtain ⟨r, hr1, b2, rfl, hb2⟩ := Paired.at_ hP9 hy2
        have hi2 : i2 < ys2.length := (List.getElem?_eq_some_iff.mp hy2).1
        have hrok := hqs r (List.mem_of_getElem? hr1)
        obtain ⟨ys9, hys9, hPy9⟩ := id hI9.wp.lst
        obtain ⟨kvs9, hkv9, hke9⟩ := id hI9.wp.dic
        obtain ⟨ms9, hms9, hPm9⟩ := id hI9.mor
        have hly := hPy9.length
        have hlm := hPm9.length
        have hlk : kvs9.length = ps2.length := by have := congrArg List.length hke9; rwa [List.length_map, List.length_map] at this
        have hmm := hI9.len
        have ltk : ∀ q ∈ qs.take (i2 + 1), q ∈ qs.take i2 ∨ q = r := fun q hq => by
          rw [take_snoc hr1] at hq
          rcases List.mem_append.mp hq with hq | hq
          · exact .inl hq
          · exact .inr (List.mem_singleton.mp hq)
        refine ⟨_, rfl, _, rfl, d, _, rfl, DGet.t (k := kt r) hkv9 hb2, _, rfl, if2 (fun c => ?_) (fun c => ?_)⟩
        · have hn : valV kvs9 (kt r) = none := by simpa using c
          refine ⟨_, rfl, _, rfl, d, _, rfl, DPut.t (k := kt r) hkv9 hb2 (sz' (by omega)), ?_⟩
          have nfd : fo ≠ d := fun z => by rw [z, hkv9] at hys9; cases hys9
          have nmd : m ≠ d := fun z => by rw [z, hkv9] at hms9; cases hms9
          have e1 : (upd H9 d (.dT (putK kvs9 (kt r) (.bl true)))) fo = some (.lst ys9) := by rw [upd_ne nfd]; exact hys9
          refine ⟨_, rfl, (.inl ⟨rfl, _, SqL.of e1⟩), _, rfl, fo, ys9, _, rfl, rfl, e1, sz' (by omega), ?_⟩
          have e2 : (upd (upd H9 d (.dT (putK kvs9 (kt r) (.bl true)))) fo (.lst (ys9 ++ [.ref b2]))) m = some (.lst ms9) := by rw [upd_ne hI9.nm, upd_ne nmd]; exact hms9
          refine ⟨_, rfl, (.inl ⟨rfl, _, SqL.of e2⟩), _, rfl, m, ms9, _, rfl, rfl, e2, sz' (by omega), ?_⟩
          have t : Tx H9 (add3 H9 fo d m kvs9 ys9 ms9 r (.ref b2)) := add_tx hI9.nm hys9 hkv9 hms9
          refine ⟨_, ps2 ++ [r], mps2 ++ [r], rfl, hI9.add hys9 hkv9 hms9 ⟨b2, rfl, hb2⟩ hn ⟨hrok.1, hrok.2.1, by omega⟩, by rw [List.length_append, List.length_singleton]; omega, fun q hq => List.mem_append_left _ (hsub q hq), fun q hq => ?_,
            by rw [upd_ne n3, upd_ne n1, upd_ne n2]; exact hl29, L2.Paired.mapP hP9 fun _ _ h => h.mono t⟩
          rcases ltk q hq with hq | rfl
          · exact List.mem_append_left _ (htk q hq)
          · exact List.mem_append_right _ List.mem_cons_self
        · have hmem : r ∈ ps2 := by
            have h1 : ¬ valV kvs9 (kt r) = none := fun z => by rw [z] at c; cases c
            have h2 : kt r ∈ kvs9.map (·.1) := Classical.byContradiction fun z => h1 (val_none.mpr z)
            rw [hke9] at h2
            obtain ⟨r2, h3, h4⟩ := List.mem_map.mp h2
            rw [← kt_inj h4]
            exact h3
          refine ⟨_, ps2, mps2, rfl, hI9, by omega, hsub, fun q hq => ?_, hl29, hP9⟩
          rcases ltk q hq with hq | rfl
          · exact htk q hq
          · exact hmem
      · rintro _ H9 ⟨v8, ps2, mps2, rfl, hI9, hlp9, hsub, htk, hl29, hP9⟩
        rw [List.take_of_length_le (Nat.le_of_eq hl3.symm)] at htk
        refine ⟨_, _, ps2, mps2, rfl, hI9, by omega, fun q hq => ?_⟩
        rw [take_snoc hq1] at hq
        rcases List.mem_append.mp hq with hq | hq
        · exact (hC q hq).mono hsub
        · rw [List.mem_singleton.mp hq]
          intro x hx
          obtain ⟨r, h1, h2⟩ := hcn x hx
          exact ⟨r, htk r h1, h2⟩
    · rintro _ H7 ⟨v7, v8, ps', mps, rfl, hI, hlp, hC⟩
      rw [List.take_of_length_le (Nat.le_of_eq hPw.length.symm)] at hC
      obtain ⟨ys7, hys7, hPy7⟩ := id hI.wp.lst
      obtain ⟨ms7, hms7, hPm7⟩ := id hI.mor
      have hly := hPy7.length
      have hmm := hI.len
      have hlw := hPw.length
      refine ⟨_, rfl, fo, ys7, rfl, .inl (SqL.of hys7), _, rfl, _, _, rfl, rfl, _, rfl, if2 (fun c => ?_) (fun c => ?_)⟩
      · exact q0 _ hI.wp.ex
      · have c' : ¬ (16 : Int) < (ys7.length : Int) := of_decide_eq_false c
        refine ⟨_, rfl, _, ?_, m, _, _, _, ps', mps, ms7, rfl, hI.wp, by omega, rfl, hms7, hPm7, by omega, hI.subm, fun q hq => ?_, hI.sub0 _ hst, hI.nm, hI.m0⟩
        · rw [if_neg hne]
          split
          · omega
          · have : mps.length ≠ 0 := fun z => ‹¬ mps = []› (List.length_eq_zero_iff.mp z)
            omega
        · rcases hI.all q hq with z | z
          · rcases hcl q z with z | z
            · exact .inr (hC q z)
            · exact .inr (z.mono hI.sub0)
          · exact .inl z
  · have hwe : wps = [] := by
      cases wps with
      | nil => rfl
      | cons x y => cases c
    subst hwe
    obtain ⟨ys, hys, hPy⟩ := hWP5.lst
    refine ⟨_, rfl, fo, ys, rfl, SqL.of hys, fun z hz => ?_, fun zs p6 hperm hp6 => ?_⟩
    · obtain ⟨r, _, t, e, ht⟩ := Paired.mem hPy hz
      exact ⟨t, _, _, e, ht⟩
    · obtain ⟨qs, hQ, hqp⟩ := Paired.perm hperm hPy
      have x6 := Ex.new (o := .lst zs) hp6
      exact q _ p6 zs qs (hWP5.ex.trans x6) upd_same (L2.Paired.mapP hQ fun _ _ h => h.mono (Tx.of x6)) (by rw [hqp.length_eq]; omega) (fun r hr2 => by
        have := hWP5.ok r (hqp.mem_iff.mp hr2)
        exact ⟨this.1, this.2.1, by omega⟩) (hqp.mem_iff.mpr hst) fun r hr2 => by
        rcases hcl r (hqp.mem_iff.mp hr2) with z | z
        · cases z
        · exact z.mono fun r2 h2 => hqp.mem_iff.mpr h2
end

end M10
set_option Elab.async false
set_option linter.all false
set_option maxRecDepth 100000
set_option maxHeartbeats 4000000
namespace M10
open PySem PySem.Spec PyProof.Rows L2 Evl
/-! ### a staging's plain program -/
theorem nm_sz {f : Str} {k : Int} (hf : f ∈ nm8) (h0 : 0 ≤ k) (h1 : k ≤ 1000000) : f.length + usc.length ≤ sizeLine ∧ (f ++ usc).length + (Str.ofString (toString k)).length ≤ sizeLine ∧ k.natAbs.log2 < 1920 := by
  have nl := num_len h0 h1
  have hfl := (nm8_ok f hf).1
  have hu : usc.length = 1 := by decide +kernel
  have hfu : (f ++ usc).length = f.length + usc.length := by rw [TL.len_tl, TL.tl_append, List.length_append, ← TL.len_tl, ← TL.len_tl]
  refine ⟨sz (by omega), sz (by omega), ?_⟩
  have h2 : k.natAbs < 2 ^ 20 := by
    have : (2 : Nat) ^ 20 = 1048576 := by decide
    omega
  by_cases h3 : k.natAbs = 0
  · rw [h3]
    decide
  · have := (Nat.log2_lt h3).mpr h2
    omega
theorem op_neDK {X : Cx} {K : PySem.W.Frag} (hu : X.A.units + 64 < cLine) (hK : X.K = K := by rfl) : OpR X (compareOp .NotEq) (rNeD K) := hK ▸ op_neD hu
structure WfPl (pl : List Fun3) : Prop where
  ne : pl ≠ []
  len : pl.length ≤ 17
  ok : ∀ q ∈ pl, 0 ≤ q.2.1 ∧ q.2.1 ≤ 2 ∧ Pf (fun x => ∃ r ∈ pl, r.1 = x) q.2.2 .e ∧ q.2.2.wt ≤ 600 ∧ q.2.2.ht ≤ 12
/-- the plain function of a point -/
def plf (pr : List Fun3) (q : Pt) : Fun3 := (nmk q.1 q.2, mny pr q.1, (bdy pr q.1).left q.2)
theorem plf_ok {pr : List Fun3} (hW : WfPr pr) {q : Pt} (h : InP pr q) (h0 : 0 ≤ q.2) (h1 : q.2 ≤ 85) : 0 ≤ mny pr q.1 ∧ mny pr q.1 ≤ 2 ∧ (∃ R, Pf R ((bdy pr q.1).left q.2) .e) ∧ ((bdy pr q.1).left q.2).wt ≤ 600 ∧ ((bdy pr q.1).left q.2).ht ≤ 12 := by
  obtain ⟨m, hm⟩ := h
  obtain ⟨q0, rs, hat⟩ := atN_ne hm
  obtain ⟨hq0, hq1⟩ := atN_mem hat
  obtain ⟨w1, w2, w3, w4, w5, w6⟩ := hW.ok q0 hq0
  rw [bdy_eq hat, mny_eq hat]
  have LKq := left_ok (k := q.2) (by omega) h0 (Int.le_trans h1 (by decide)) w4 (by simp)
  have a := LKq.wt
  have b := LKq.ht
  exact ⟨w2, w3, ⟨_, LKq.pf⟩, by omega, by omega⟩
theorem wfPl_of {pr : List Fun3} (hW : WfPr pr) {qs : List Pt} (hne : qs ≠ []) (hl : qs.length ≤ 17) (hq : ∀ q ∈ qs, InP pr q ∧ 0 ≤ q.2 ∧ q.2 ≤ 85) (hc : ∀ q ∈ qs, Cl pr qs q) : WfPl (qs.map (plf pr)) := by
  refine ⟨fun z => hne (List.map_eq_nil_iff.mp z), by rw [List.length_map]; exact hl, fun p hp => ?_⟩
  obtain ⟨q, hqm, rfl⟩ := List.mem_map.mp hp
  obtain ⟨h1, h2, h3⟩ := hq q hqm
  obtain ⟨a, b, ⟨R, c⟩, d, e⟩ := plf_ok hW h1 h2 h3
  refine ⟨a, b, c.mono fun x hx _ => ?_, d, e⟩
  obtain ⟨r, h4, h5⟩ := hc q hqm x hx
  exact ⟨_, List.mem_map.mpr ⟨r, h4, rfl⟩, h5.symm⟩
def spStaged : Sp := fun vs H Q _ => ∃ (p : Addr) (xs : List V) (pr : List Fun3) (f : Str) (k : Int), vs = [.ref p, .str f, .int k, .int 16] ∧ H p = some (.tup xs) ∧ F3s H xs pr ∧ WfPr pr ∧ InP pr (f, k) ∧ 0 ≤ k ∧ k ≤ 5 ∧
  (∀ H', Ex H H' → Q .non H') ∧ ∀ H' l xs pl, Ex H H' → H' l = some (.tup xs) → F3s H' xs pl → WfPl pl → Q (.ref l) H'
section
variable {P : Program} {w : World} {K : PySem.W.Frag} {mg : Str → Option Value} {base : Heap}
theorem sc_law_staged : FnScope ["_law_program_here", "_law_name_here", "_law_early", "_law_most", "_law_some", "_law_order", "_law_point", "_law_one", "_law_k"] ["_law_program_here", "_law_name_here", "_law_early", "_law_most"] (defScope s_law_staged) := ⟨rfl, rfl, rfl, by decide +kernel, rfl, by decide +kernel, by decide +kernel⟩
theorem ok_l_staged (D : Dd K mg "_law_staged" s_law_staged ["_law_program_here", "_law_name_here", "_law_early", "_law_most"]) (T : Tb K mg) (c_l_points : Dn P w K mg base L2.CX0 44 "_law_points" spPoints) (c_l_lates : Dn P w K mg base L2.CX0 1 "_law_lates" spLates) (c_l_body : Dn P w K mg base L2.CX0 1 "_law_body" spBody)
    (c_l_left : Dn P w K mg base L2.CX0 42 "_law_left" (spLeft 12)) : Dn P w K mg base L2.CX0 45 "_law_staged" spStaged := by
  refine D.ok sc_law_staged (fun vs H Q E h => by obtain ⟨p, xs, pr, f, k, rfl, _⟩ := h; rfl) (fun f cdv A outer s H vs Q E hr h => ?_)
  obtain ⟨p, xs, pr, fn, k, rfl, hp, hF, hW, hin, k0, k1, q0, q⟩ := h
  refine ⟨_, (pss_cons (sset 4 sc_law_staged.nd (pe_c0 c_l_points hr (pa_cons (pv 0) (pa_cons (pe_tup (pa_cons (pv 1) (pa_cons (pv 2) pa_nil))) (pa_cons (pv 3) pa_nil)))))
    (pss_cons (ps_if (pt_cmp (pc_isN (pv 4))) (pss_one (ps_ret pe_non)) pss_nil)
    (pss_cons (sset 5 sc_law_staged.nd (pe_op op_cat (pe_lst (pa_cons (pe_tup (pa_cons (pv 1) (pa_cons (pv 2) pa_nil))) pa_nil)) (pe_lc (own := [("_law_point", 6)]) (g := (gName 6)) rfl sc_law_staged.nd (pi_list (pv 4)) (blkOk_by (N := ["_law_program_here", "_law_name_here", "_law_early", "_law_most", "_law_some", "_law_order", "_law_point", "_law_one", "_law_k"]) (sc := defScope s_law_staged) (by decide +kernel)) (fun _ _ _ _ _ => (gnm 6 sc_law_staged.nd)) (fun _ _ _ _ _ => pts_one (pt_cmpR (op_neDK (K := K) (hu64 hr)) (pv 6) (pe_tup (pa_cons (pv 1) (pa_cons (pv 2) pa_nil))) (nomark _))) (fun _ _ _ _ _ => (pv 6)))))
    (pss_one (ps_ret (pct call_tuple_of T.tuple (pa_cons (pe_lc (own := [("_law_one", 7), ("_law_k", 8)]) (g := (gTup K 2 (gCons (gName 7) (gCons (gName 8) gNil)))) (tt := tYes) rfl sc_law_staged.nd (pi_list (pv 5)) (blkOk_by (N := ["_law_program_here", "_law_name_here", "_law_early", "_law_most", "_law_some", "_law_order", "_law_point", "_law_one", "_law_k"]) (sc := defScope s_law_staged) (by decide +kernel)) (fun _ _ _ _ _ => (pg_tup rfl (pgs_cons (gnm 7 sc_law_staged.nd) (pgs_cons (gnm 8 sc_law_staged.nd) pgs_nil)))) (fun _ _ _ _ _ => pts_nil) (fun _ _ _ _ _ => (pe_tup (pa_cons (pe_op op_add_str (pe_op op_add_str (pv 7) pe_str) (pct call_str_int T.str (pa_cons (pv 8) pa_nil))) (pa_cons (pe_c0 c_l_lates hr (pa_cons (pv 0) (pa_cons (pv 7) pa_nil))) (pa_cons (pe_c0 c_l_left hr (pa_cons (pe_c0 c_l_body hr (pa_cons (pv 0) (pa_cons (pv 7) pa_nil))) (pa_cons (pv 8) pa_nil))) pa_nil)))))) pa_nil))))))), ?_⟩
  refine ⟨_, rfl, _, rfl, _, rfl, z2, ?_⟩
  intro a1 hp_a1
  generalize hG_a1 : upd _ a1 _ = H1
  obtain ⟨x1, g1⟩ := nw hp_a1 hG_a1
  refine ⟨_, rfl, p, a1, xs, pr, fn, k, rfl, x1 _ _ hp, hF.mono (Tx.of x1), hW, g1, hin, k0, k1, fun H2 x2 => ?_, fun H2 l ys ps x2 hl hP hlen hok hst hcl => ?_⟩
  · refine ⟨_, rfl, _, rfl, ifT (by decide +kernel) (q0 _ (x1.trans x2))⟩
  · refine ⟨_, rfl, _, rfl, ifF (decide_eq_false fun z => by cases z) ?_⟩
    have x12 := x1.trans x2
    have hn8 := hin.nm hW
    refine ⟨_, rfl, _, rfl, z2, ?_⟩
    intro a3 hp_a3
    generalize hG_a3 : upd _ a3 _ = H3
    obtain ⟨x3, g3⟩ := nw hp_a3 hG_a3
    refine ⟨z1, ?_⟩
    intro l4 hp_l4
    generalize hG_l4 : upd _ l4 _ = H4
    obtain ⟨x4, g4⟩ := nw hp_l4 hG_l4
    have x24 := x3.trans x4
    have hl4 := x24 _ _ hl
    refine ⟨_, rfl, l, rfl, ⟨_, SqL.of hl4⟩, fun DD hD => ?_⟩
    have hP4 : Paired (PtAt H4) ys ps := L2.Paired.mapP hP fun _ _ h => h.mono (Tx.of x24)
    have hly := hP.length
    refine lc_list (K := K) (a := l) (xs := ys) (fun i H' => ∃ acc : List V, H' DD = some (.lst acc) ∧ acc.length ≤ i ∧ Kp DD H4 H' ∧ Paired (PtAt H') acc ((ps.take i).filter fun q => decide (q ≠ (fn, k)))) ⟨[], upd_same, Nat.le_refl _, Kp.put, by simpa using Paired.nil⟩ ?_ ?_ ?_
    · rintro j H' _ ⟨acc, _, _, kp, _⟩
      exact SqL.of (kp.ex hD _ _ hl4)
    · rintro j y H' hy ⟨acc, hacc, hal, kp, hpa⟩
      obtain ⟨r, hr1, hry⟩ := Paired.at_ hP4 hy
      have hj2 : j < ys.length := (List.getElem?_eq_some_iff.mp hy).1
      have hro := hok r (List.mem_of_getElem? hr1)
      refine ⟨rfl, _, rfl, _, rfl, _, rfl, z2, ?_⟩
      intro a5 hp_a5
      generalize hG_a5 : upd _ a5 _ = H5
      obtain ⟨x5, g5⟩ := nw hp_a5 hG_a5
      have xk := (kp.ex hD).trans x5
      have hry5 := hry.mono (Tx.of xk)
      refine ⟨pD r, pD (fn, k), hry5.dp, PtAt.dp ⟨a5, rfl, g5⟩, pD_shaped (hro.1.str hW), pD_shaped (hin.str hW), ?_⟩
      rw [pD_eqv]
      have hacc5 := x5 _ _ hacc
      have hpa5 : Paired (PtAt H5) acc ((ps.take j).filter fun q => decide (q ≠ (fn, k))) := L2.Paired.mapP hpa fun _ _ h => h.mono (Tx.of x5)
      refine ⟨_, rfl, if2 (fun c => ?_) (fun c => ?_)⟩
      · have c' : r ≠ (fn, k) := by simpa using c
        have txu : Tx H5 (upd H5 DD (.lst (acc ++ [y]))) := (Kp.put (r := DD)).tx hacc5
        refine ⟨_, rfl, acc, hacc5, sz' (by omega), acc ++ [y], upd_same, by rw [List.length_append, List.length_singleton]; omega, (kp.trans (Kp.of x5)).trans Kp.put, ?_⟩
        rw [take_snoc hr1, List.filter_append, List.filter_cons_of_pos (by simpa using c'), List.filter_nil]
        exact Paired.snoc (hry5.mono txu) (L2.Paired.mapP hpa5 fun _ _ h => h.mono txu)
      · have c' : r = (fn, k) := by simpa using c
        refine ⟨acc, hacc5, by omega, kp.trans (Kp.of x5), ?_⟩
        rw [take_snoc hr1, List.filter_append, List.filter_cons_of_neg (by simpa using c'), List.filter_nil, List.append_nil]
        exact hpa5
    · rintro H5 ⟨acc, hacc, hal, kp, hpa⟩
      rw [List.take_of_length_le (by omega)] at hpa
      have x5 := kp.ex hD
      refine ⟨l4, DD, [.ref a3], acc, rfl, rfl, x5 _ _ g4, hacc, sz (by show 1 + acc.length ≤ _; omega), ?_⟩
      intro l6 hp_l6
      generalize hG_l6 : upd _ l6 _ = H6
      obtain ⟨x6, g6⟩ := nw hp_l6 hG_l6
      have x36 := (x4.trans x5).trans x6
      have x16 := (x12.trans x3).trans x36
      have hp6 := x16 _ _ hp
      have hF6 : F3s H6 xs pr := hF.mono (Tx.of x16)
      have hlx := hF.length
      have hl4 := hW.len
      generalize hqe : (fn, k) :: ps.filter (fun q => decide (q ≠ (fn, k))) = qs
      have hPq : Paired (PtAt H6) ([.ref a3] ++ acc) qs := by
        rw [← hqe]
        exact .cons ⟨a3, rfl, x36 _ _ g3⟩ (L2.Paired.mapP hpa fun _ _ h => h.mono (Tx.of x6))
      have hsub : ∀ r ∈ ps, r ∈ qs := fun r hr1 => by
        rw [← hqe]
        by_cases e : r = (fn, k)
        · rw [e]
          exact List.mem_cons_self
        · exact List.mem_cons_of_mem _ (List.mem_filter.mpr ⟨hr1, decide_eq_true e⟩)
      have hsup : ∀ r ∈ qs, r ∈ ps := fun r hr1 => by
        rw [← hqe] at hr1
        rcases List.mem_cons.mp hr1 with e | hr1
        · rw [e]
          exact hst
        · exact (List.mem_filter.mp hr1).1
      have hqn : qs ≠ [] := by
        rw [← hqe]
        simp
      have hql : qs.length ≤ 17 := by
        have := hPq.length
        rw [List.length_append, List.length_singleton] at this
        omega
      have hWl := wfPl_of hW hqn hql (fun r hr1 => hok r (hsup r hr1)) fun r hr1 => (hcl r (hsup r hr1)).mono hsub
      have hlq := hPq.length
      generalize hzs : [V.ref a3] ++ acc = zs at g6 hPq hlq
      refine ⟨_, rfl, l6, rfl, ⟨_, SqL.of g6⟩, fun D2 hD2 => ?_⟩
      refine lc_list (K := K) (a := l6) (xs := zs) (fun i H' => ∃ ac : List V, H' D2 = some (.lst ac) ∧ ac.length ≤ i ∧ Kp D2 H6 H' ∧ F3s H' ac ((qs.take i).map (plf pr))) ⟨[], upd_same, Nat.le_refl _, Kp.put, (by rw [List.take_zero]; exact Paired.nil)⟩ ?_ ?_ ?_
      · rintro j H' _ ⟨ac, _, _, kp2, _⟩
        exact SqL.of (kp2.ex hD2 _ _ g6)
      · rintro j y H' hy ⟨ac, hacc2, hal2, kp2, hpa2⟩
        obtain ⟨r, hr1, b, rfl, hb⟩ := Paired.at_ hPq hy
        have hj2 : j < zs.length := (List.getElem?_eq_some_iff.mp hy).1
        have hro := hok r (hsup r (List.mem_of_getElem? hr1))
        obtain ⟨m2, hm2⟩ := id hro.1
        obtain ⟨q1, rs1, hat1⟩ := atN_ne hm2
        obtain ⟨hq1, hq2⟩ := atN_mem hat1
        obtain ⟨w1, w2, w3, w4, w5, w6⟩ := hW.ok q1 hq1
        have xk := kp2.ex hD2
        have hpH := xk _ _ hp6
        have hFH : F3s H' xs pr := hF6.mono (Tx.of xk)
        obtain ⟨s1, s2, s3⟩ := nm_sz (hro.1.nm hW) hro.2.1 (show r.2 ≤ 1000000 by omega)
        refine ⟨b, _, rfl, SqT.of (xk _ _ hb), rfl, _, _, rfl, _, _, rfl, rfl, rfl, ?_⟩
        refine ⟨_, rfl, _, _, rfl, rfl, s1, _, rfl, _, rfl, s3, _, _, rfl, rfl, s2, ?_⟩
        refine ⟨_, rfl, _, rfl, p, xs, pr, rs1, q1, r.1, rfl, hpH, hFH, by omega, hat1, fun H7 v7 x7 e7 => ?_⟩
        subst e7
        refine ⟨_, rfl, _, rfl, p, xs, pr, rs1, q1, r.1, rfl, x7 _ _ hpH, hFH.mono (Tx.of x7), by omega, hat1, fun H8 v8 x8 d8 => ?_⟩
        refine ⟨_, rfl, q1.2.2, v8, r.2, nsOf pr, q1.2.1, rfl, d8, w4, w3, hro.2.1, by omega, hW.nm, w5, w6, fun H9 v9 x9 d9 => ⟨z3, ?_⟩⟩
        intro b10 hp_b10
        generalize hG_b10 : upd _ b10 _ = H10
        obtain ⟨x10, g10⟩ := nw hp_b10 hG_b10
        have x710 := ((x7.trans x8).trans x9).trans x10
        have hacc3 := x710 _ _ hacc2
        have txu : Tx H10 (upd H10 D2 (.lst (ac ++ [.ref b10]))) := (Kp.put (r := D2)).tx hacc3
        refine ⟨ac, hacc3, sz' (by omega), ac ++ [.ref b10], upd_same, by rw [List.length_append, List.length_singleton]; omega, (kp2.trans (Kp.of x710)).trans Kp.put, ?_⟩
        rw [take_snoc hr1, List.map_append]
        refine Paired.snoc ⟨b10, v9, rfl, ?_, ?_⟩ ((hpa2.mono (Tx.of x710)).mono txu)
        · have e1 : (plf pr r).2.1 = q1.2.1 := mny_eq hat1
          rw [e1]
          exact txu _ _ g10
        · have e1 : (plf pr r).2.2 = q1.2.2.left r.2 := by
            show (bdy pr r.1).left r.2 = _
            rw [bdy_eq hat1]
          rw [e1]
          exact (d9.ex x10).mono txu
      · rintro H' ⟨ac, hacc2, hal2, kp2, hpa2⟩
        rw [List.take_of_length_le (Nat.le_of_eq hlq.symm)] at hpa2
        refine ⟨D2, ac, rfl, .inl ⟨SqL.of hacc2, ?_⟩⟩
        intro p11 hp_p11
        generalize hG_p11 : upd _ p11 _ = H11
        obtain ⟨x11, g11⟩ := nw hp_p11 hG_p11
        exact q _ _ _ _ ((x16.trans (kp2.ex hD2)).trans x11) g11 (hpa2.mono (Tx.of x11)) hWl
end

end M10
set_option Elab.async false
set_option linter.all false
set_option maxRecDepth 100000
set_option maxHeartbeats 4000000
namespace M10
open PySem PySem.Spec PyProof.Rows L2 Evl
/-! ### code -/
inductive Ins where
  | push (n : Int) | arg (i : Int) | op (k : K4) | back | jump (a : Int) | zero (a : Int) | call (j : Int) | tail (j : Int)
def Ins.v : Ins → List V
  | .push n => [.str "push", .int n]
  | .arg i => [.str "arg", .int i]
  | .op k => [.str k.s]
  | .back => [.str "back"]
  | .jump a => [.str "jump", .int a]
  | .zero a => [.str "zero", .int a]
  | .call j => [.str "call", .int j]
  | .tail j => [.str "tail", .int j]
def InsAt (H : Hp) (x : V) (i : Ins) : Prop := ∃ a, x = .ref a ∧ H a = some (.tup i.v)
theorem InsAt.mono {H H' : Hp} {x : V} {i : Ins} (h : InsAt H x i) (e : Tx H H') : InsAt H' x i := by
  obtain ⟨a, e1, e2⟩ := h
  exact ⟨a, e1, e _ _ e2⟩
abbrev InssAt (H : Hp) (xs : List V) (is : List Ins) : Prop := Paired (InsAt H) xs is
theorem InssAt.mono {H H' : Hp} {xs : List V} {is : List Ins} (h : InssAt H xs is) (e : Tx H H') : InssAt H' xs is := L2.Paired.mapP h fun _ _ h => InsAt.mono h e
/-- targets at most lim, indices below nE -/
def Ins.ok (nE : Nat) (lim : Int) : Ins → Prop
  | .push n => 0 ≤ n ∧ n ≤ TOP
  | .arg i => 0 ≤ i ∧ i ≤ 3
  | .op _ => True
  | .back => True
  | .jump a => 0 ≤ a ∧ a ≤ lim
  | .zero a => 0 ≤ a ∧ a ≤ lim
  | .call j => 0 ≤ j ∧ j < nE
  | .tail j => 0 ≤ j ∧ j < nE
theorem Ins.ok.mono {nE : Nat} {l l' : Int} {i : Ins} (h : i.ok nE l) (hl : l ≤ l') : i.ok nE l' := by
  cases i with
  | jump a => exact ⟨h.1, Int.le_trans h.2 hl⟩
  | zero a => exact ⟨h.1, Int.le_trans h.2 hl⟩
  | _ => exact h
def AllOk (nE : Nat) (lim : Int) (is : List Ins) : Prop := ∀ i ∈ is, i.ok nE lim
theorem AllOk.mono {nE : Nat} {l l' : Int} {is : List Ins} (h : AllOk nE l is) (hl : l ≤ l') : AllOk nE l' is := fun i hi => (h i hi).mono hl
theorem AllOk.app {nE : Nat} {l : Int} {is js : List Ins} (h : AllOk nE l is) (h2 : AllOk nE l js) : AllOk nE l (is ++ js) := fun i hi => (List.mem_append.mp hi).elim (h i) (h2 i)
theorem AllOk.one {nE : Nat} {l : Int} {i : Ins} (h : i.ok nE l) : AllOk nE l [i] := fun j hj => by
  rw [List.mem_singleton.mp hj]
  exact h
theorem AllOk.nil {nE : Nat} {l : Int} : AllOk nE l [] := fun j hj => absurd hj List.not_mem_nil
def NumOk (kvs : List (Key × V)) (nE : Nat) (x : Str) : Prop := ∃ j : Int, valV kvs (.inr x) = some (.int j) ∧ 0 ≤ j ∧ j < nE
abbrev b2i (b : Bool) : Int := if b = true then 1 else 0
abbrev b2l {α : Type} (b : Bool) (x : α) : List α := if b = true then [x] else []
theorem rep_b {x : V} (b : Bool) : (List.replicate (b2i b).toNat [x]).flatten = b2l b x := by cases b <;> rfl
theorem b2i_lo (b : Bool) : -(2 ^ 63) ≤ b2i b := by cases b <;> decide
theorem b2i_hi (b : Bool) : b2i b < 2 ^ 63 := by cases b <;> decide
theorem b2i_sz (b : Bool) : ([0] : List Nat).length * (b2i b).toNat ≤ sizeLine := by cases b <;> exact sz (by decide)
theorem b2l_len {α : Type} (b : Bool) (x : α) : ((b2l b x).length : Int) = b2i b := by cases b <;> rfl
theorem b2l_le {α : Type} (b : Bool) (x : α) : (b2l b x).length ≤ 1 := by cases b <;> simp [b2l]
theorem b2l_at {H : Hp} {x : V} {i : Ins} (b : Bool) (h : InsAt H x i) : InssAt H (b2l b x) (b2l b i) := by
  cases b
  · exact .nil
  · exact .cons h .nil
theorem mkA_take : ∀ {ts : List Tr} {i : Nat} {t : Tr}, ts[i]? = some t → (mkA (ts.take (i + 1))).wt = (mkA (ts.take i)).wt + t.wt
  | [], i, t, h => by simp at h
  | u :: ts, 0, t, h => by
    cases h
    show u.wt + 0 = 0 + u.wt
    omega
  | u :: ts, i + 1, t, h => by
    have ih := mkA_take (ts := ts) (i := i) (t := t) (by simpa using h)
    show u.wt + (mkA (ts.take (i + 1))).wt = u.wt + (mkA (ts.take i)).wt + t.wt
    omega
theorem mkA_le : ∀ (ts : List Tr) (i : Nat), (mkA (ts.take i)).wt ≤ (mkA ts).wt
  | [], i => by simp
  | u :: ts, 0 => Nat.zero_le _
  | u :: ts, i + 1 => by
    have ih := mkA_le ts i
    show u.wt + (mkA (ts.take i)).wt ≤ u.wt + (mkA ts).wt
    omega
def spPut (n : Nat) : Sp := fun vs H Q _ => ∃ (t : Tr) (v : V) (d : Addr) (kvs : List (Key × V)) (nE : Nat) (k : Int) (b : Bool), vs = [v, .ref d, .int k, .bl b] ∧ De H t [v] ∧ H d = some (.dK kvs) ∧ Pf (NumOk kvs nE) t .e ∧ t.ht ≤ n ∧ t.wt ≤ 600 ∧ 0 ≤ k ∧
  ∀ H' l xs is, Ex H H' → H' l = some (.lst xs) → InssAt H' xs is → is ≠ [] → is.length ≤ (if b = true then 2 * t.wt else t.wt) → AllOk nE (k + is.length - b2i b) is → Q (.ref l) H'
theorem k4_num (k : K4) : decide (V.str k.s = V.str "number") = false := by cases k <;> decide +kernel
theorem k4_late (k : K4) : decide (V.str k.s = V.str "late") = false := by cases k <;> decide +kernel
section
variable {P : Program} {w : World} {K : PySem.W.Frag} {mg : Str → Option Value} {base : Heap}
theorem sc_law_put : FnScope ["_law_one", "_law_numbers", "_law_at", "_law_is_last", "_law_found", "_law_yes", "_law_after", "_law_no", "_law_part"] ["_law_one", "_law_numbers", "_law_at", "_law_is_last"] (defScope s_law_put) := ⟨rfl, rfl, rfl, by decide +kernel, rfl, by decide +kernel, by decide +kernel⟩
theorem ok_l_put (D : Dd K mg "_law_put" s_law_put ["_law_one", "_law_numbers", "_law_at", "_law_is_last"]) (T : Tb K mg) {n : Nat} (c_l_put : Dn P w K mg base L2.CX0 n "_law_put" (spPut n)) : Dn P w K mg base L2.CX0 (n + 1) "_law_put" (spPut (n + 1)) := by
  refine D.ok sc_law_put (fun vs H Q E h => by obtain ⟨t, v, d, kvs, nE, k, b, rfl, _⟩ := h; rfl) (fun f cdv A outer s H vs Q E hr h => ?_)
  have hu : (A.deeper (envOfC "_law_put" (defScope s_law_put) s.heap.objs.size f cdv)).units + 1 < cLine := by
    have := hr.un
    omega
  obtain ⟨t, v, d, kvs, nE, k, b, rfl, hd, hdd, hw, hh, hwt, k0, q⟩ := h
  refine ⟨_, (pss_cons (ps_if (PW.pt (pw_or (pt_cmpR op_eq (pe_ix ix_tup (pv 0) pe_int (fun _ _ => rfl)) pe_str (nomark _)) (pw_or1 (pt_cmpR op_eq (pe_ix ix_tup (pv 0) pe_int (fun _ _ => rfl)) pe_str (nomark _))))) (pss_one (sset 4 sc_law_put.nd (pe_lst (pa_cons (pe_tup (pa_cons (pe_ifExp (pt_cmpR op_eq (pe_ix ix_tup (pv 0) pe_int (fun _ _ => rfl)) pe_str (nomark _)) pe_str pe_str) (pa_cons (pe_ix ix_tup (pv 0) pe_int (fun _ _ => rfl)) pa_nil))) pa_nil)))) (pss_one (ps_if (pt_cmpR op_eq (pe_ix ix_tup (pv 0) pe_int (fun _ _ => rfl)) pe_str (nomark _)) (pss_cons (sset 4 sc_law_put.nd (pe_c0 c_l_put hr (pa_cons (pe_ix ix_tup (pe_ix ix_tup (pv 0) pe_int (fun _ _ => rfl)) pe_int (fun _ _ => rfl)) (pa_cons (pv 1) (pa_cons (pv 2) (pa_cons pe_bl pa_nil))))))
    (pss_cons (sset 4 sc_law_put.nd (pe_op op_cat (pe_op op_cat (pv 4) (pe_c0 c_l_put hr (pa_cons (pe_ix ix_tup (pe_ix ix_tup (pv 0) pe_int (fun _ _ => rfl)) pe_int (fun _ _ => rfl)) (pa_cons (pv 1) (pa_cons (pe_op op_add (pv 2) (pcb call_len_seq T.len (pa_cons (pv 4) pa_nil))) (pa_cons pe_bl pa_nil)))))) (pe_lst (pa_cons (pe_tup (pa_cons pe_str pa_nil)) pa_nil))))
    (pss_cons (sset 5 sc_law_put.nd (pe_c0 c_l_put hr (pa_cons (pe_ix ix_tup (pv 0) pe_int (fun _ _ => rfl)) (pa_cons (pv 1) (pa_cons (pe_op op_add (pe_op op_add (pv 2) (pcb call_len_seq T.len (pa_cons (pv 4) pa_nil))) pe_int) (pa_cons (pv 3) pa_nil))))))
    (pss_cons (sset 6 sc_law_put.nd (pe_op op_add (pe_op op_add (pe_op op_add (pe_op op_add (pv 2) (pcb call_len_seq T.len (pa_cons (pv 4) pa_nil))) pe_int) (pcb call_len_seq T.len (pa_cons (pv 5) pa_nil))) (pct call_int1 T.int (pa_cons (pe_not (pv 3)) pa_nil))))
    (pss_cons (sset 7 sc_law_put.nd (pe_c0 c_l_put hr (pa_cons (pe_ix ix_tup (pv 0) pe_int (fun _ _ => rfl)) (pa_cons (pv 1) (pa_cons (pv 6) (pa_cons (pv 3) pa_nil))))))
    (pss_cons (sset 4 sc_law_put.nd (pe_op op_cat (pe_op op_cat (pe_op op_cat (pe_op op_cat (pv 4) (pe_lst (pa_cons (pe_tup (pa_cons pe_str (pa_cons (pv 6) pa_nil))) pa_nil))) (pv 5)) (pe_op op_rep (pe_lst (pa_cons (pe_tup (pa_cons pe_str (pa_cons (pe_op op_add (pv 6) (pcb call_len_seq T.len (pa_cons (pv 7) pa_nil))) pa_nil))) pa_nil)) (pct call_int1 T.int (pa_cons (pe_not (pv 3)) pa_nil)))) (pv 7)))
    (pss_one (ps_ret (pv 4))))))))) (pss_one (ps_if (pt_cmpR op_eq (pe_ix ix_tup (pv 0) pe_int (fun _ _ => rfl)) pe_str (nomark _)) (pss_cons (sset 4 sc_law_put.nd (pe_lst pa_nil))
    (pss_cons (ps_for PassesOwn.never rfl (pi_tup (pe_ix ix_tup (pv 0) pe_int (fun _ _ => rfl))) (gnm 8 sc_law_put.nd) (pss_one (sset 4 sc_law_put.nd (pe_op op_cat (pv 4) (pe_c0 c_l_put hr (pa_cons (pv 8) (pa_cons (pv 1) (pa_cons (pe_op op_add (pv 2) (pcb call_len_seq T.len (pa_cons (pv 4) pa_nil))) (pa_cons pe_bl pa_nil)))))))))
    (pss_one (ps_ret (pe_op op_cat (pv 4) (pe_lst (pa_cons (pe_tup (pa_cons (pe_ifExp (pt_val (pv 3)) pe_str pe_str) (pa_cons (pe_dget hu (pv 1) (pe_ix ix_tup (pv 0) pe_int (fun _ _ => rfl)) (fun _ _ => rfl)) pa_nil))) pa_nil))))))) (pss_cons (sset 4 sc_law_put.nd (pe_c0 c_l_put hr (pa_cons (pe_ix ix_tup (pv 0) pe_int (fun _ _ => rfl)) (pa_cons (pv 1) (pa_cons (pv 2) (pa_cons pe_bl pa_nil))))))
    (pss_one (sset 4 sc_law_put.nd (pe_op op_cat (pe_op op_cat (pv 4) (pe_c0 c_l_put hr (pa_cons (pe_ix ix_tup (pv 0) pe_int (fun _ _ => rfl)) (pa_cons (pv 1) (pa_cons (pe_op op_add (pv 2) (pcb call_len_seq T.len (pa_cons (pv 4) pa_nil))) (pa_cons pe_bl pa_nil)))))) (pe_lst (pa_cons (pe_tup (pa_cons (pe_ix ix_tup (pv 0) pe_int (fun _ _ => rfl)) pa_nil)) pa_nil)))))))))))
    (pss_one (ps_ret (pe_op op_cat (pv 4) (pe_op op_rep (pe_lst (pa_cons (pe_tup (pa_cons pe_str pa_nil)) pa_nil)) (pct call_int1 T.int (pa_cons (pv 3) pa_nil))))))), ?_⟩
  cases t with
  | num m =>
    obtain ⟨a, e, ha⟩ := hd
    injection e with e _
    subst e
    refine ⟨_, rfl, a, _, _, _, rfl, rfl, SqT.of (ha), rfl, rfl, _, rfl, ifT (by decide +kernel) ?_⟩
    refine ⟨_, rfl, a, _, _, _, rfl, rfl, SqT.of (ha), rfl, rfl, _, rfl, ifT (by decide +kernel) ?_⟩
    refine ⟨_, rfl, a, _, _, _, rfl, rfl, SqT.of ha, rfl, z2, ?_⟩
    intro p1 hp_p1
    generalize hG_p1 : upd _ p1 _ = H1
    obtain ⟨x1, g1⟩ := nw hp_p1 hG_p1
    refine ⟨z1, ?_⟩
    intro p2 hp_p2
    generalize hG_p2 : upd _ p2 _ = H2
    obtain ⟨x2, g2⟩ := nw hp_p2 hG_p2
    have hl2 : ([V.ref p1] : List V).length ≤ 1300 := by show 1 ≤ 1300; omega
    refine ⟨_, rfl, z1, ?_⟩
    intro u1 hp_u1
    generalize hG_u1 : upd _ u1 _ = J1
    obtain ⟨y1, j1⟩ := nw hp_u1 hG_u1
    refine ⟨z1, ?_⟩
    intro u2 hp_u2
    generalize hG_u2 : upd _ u2 _ = J2
    obtain ⟨y2, j2⟩ := nw hp_u2 hG_u2
    refine ⟨_, rfl, .inr ⟨_, rfl, u2, b2i b, [.ref u1], rfl, rfl, j2, b2i_lo b, b2i_hi b, b2i_sz b, ?_⟩⟩
    rw [rep_b]
    intro u3 hp_u3
    generalize hG_u3 : upd _ u3 _ = J3
    obtain ⟨y3, j3⟩ := nw hp_u3 hG_u3
    have y13 := (y1.trans y2).trans y3
    have hb3 : InssAt J3 (b2l b (.ref u1)) (b2l b .back) := b2l_at b ⟨u1, rfl, (y2.trans y3) _ _ j1⟩
    have hbl := b2l_len b (V.ref u1)
    refine ⟨p2, u3, _, _, rfl, rfl, y13 _ _ g2, j3, sz (by have := b2l_le b (V.ref u1); have := hl2; omega), ?_⟩
    intro u4 hp_u4
    generalize hG_u4 : upd _ u4 _ = J4
    obtain ⟨y4, j4⟩ := nw hp_u4 hG_u4
    have y14 := y13.trans y4
    refine q _ u4 _ ([.push m] ++ b2l b .back) ((x1.trans x2).trans y14) j4 (Paired.app (.cons (show InsAt J4 (.ref p1) (.push m) from ⟨p1, rfl, (x2.trans y14) _ _ g1⟩) .nil) (hb3.mono (Tx.of y4))) (by simp) (by cases b <;> simp [Tr.wt, b2l]) ?_
    exact AllOk.app (AllOk.one (i := .push m) hw) (by cases b <;> first | exact AllOk.nil | exact AllOk.one trivial)
  | late m =>
    obtain ⟨a, e, ha⟩ := hd
    injection e with e _
    subst e
    refine ⟨_, rfl, a, _, _, _, rfl, rfl, SqT.of (ha), rfl, rfl, _, rfl, ifF (by decide +kernel) ?_⟩
    refine ⟨_, rfl, a, _, _, _, rfl, rfl, SqT.of (ha), rfl, rfl, _, rfl, ifT (by decide +kernel) ?_⟩
    refine ⟨_, rfl, a, _, _, _, rfl, rfl, SqT.of (ha), rfl, rfl, _, rfl, ifF (by decide +kernel) ?_⟩
    refine ⟨_, rfl, a, _, _, _, rfl, rfl, SqT.of ha, rfl, z2, ?_⟩
    intro p1 hp_p1
    generalize hG_p1 : upd _ p1 _ = H1
    obtain ⟨x1, g1⟩ := nw hp_p1 hG_p1
    refine ⟨z1, ?_⟩
    intro p2 hp_p2
    generalize hG_p2 : upd _ p2 _ = H2
    obtain ⟨x2, g2⟩ := nw hp_p2 hG_p2
    have hl2 : ([V.ref p1] : List V).length ≤ 1300 := by show 1 ≤ 1300; omega
    refine ⟨_, rfl, z1, ?_⟩
    intro u1 hp_u1
    generalize hG_u1 : upd _ u1 _ = J1
    obtain ⟨y1, j1⟩ := nw hp_u1 hG_u1
    refine ⟨z1, ?_⟩
    intro u2 hp_u2
    generalize hG_u2 : upd _ u2 _ = J2
    obtain ⟨y2, j2⟩ := nw hp_u2 hG_u2
    refine ⟨_, rfl, .inr ⟨_, rfl, u2, b2i b, [.ref u1], rfl, rfl, j2, b2i_lo b, b2i_hi b, b2i_sz b, ?_⟩⟩
    rw [rep_b]
    intro u3 hp_u3
    generalize hG_u3 : upd _ u3 _ = J3
    obtain ⟨y3, j3⟩ := nw hp_u3 hG_u3
    have y13 := (y1.trans y2).trans y3
    have hb3 : InssAt J3 (b2l b (.ref u1)) (b2l b .back) := b2l_at b ⟨u1, rfl, (y2.trans y3) _ _ j1⟩
    have hbl := b2l_len b (V.ref u1)
    refine ⟨p2, u3, _, _, rfl, rfl, y13 _ _ g2, j3, sz (by have := b2l_le b (V.ref u1); have := hl2; omega), ?_⟩
    intro u4 hp_u4
    generalize hG_u4 : upd _ u4 _ = J4
    obtain ⟨y4, j4⟩ := nw hp_u4 hG_u4
    have y14 := y13.trans y4
    refine q _ u4 _ ([.arg m] ++ b2l b .back) ((x1.trans x2).trans y14) j4 (Paired.app (.cons (show InsAt J4 (.ref p1) (.arg m) from ⟨p1, rfl, (x2.trans y14) _ _ g1⟩) .nil) (hb3.mono (Tx.of y4))) (by simp) (by cases b <;> simp [Tr.wt, b2l]) ?_
    exact AllOk.app (AllOk.one (i := .arg m) hw) (by cases b <;> first | exact AllOk.nil | exact AllOk.one trivial)
  | two k4 t1 t2 =>
    obtain ⟨a, u, v, e, ha, d1, d2⟩ := hd
    injection e with e _
    subst e
    obtain ⟨w0, w1, w2⟩ := id hw
    have hw2 : (Tr.two k4 t1 t2).wt = 1 + t1.wt + t2.wt := rfl
    have hh2 : (Tr.two k4 t1 t2).ht = max t1.ht t2.ht + 1 := rfl
    refine ⟨_, rfl, a, _, _, _, rfl, rfl, SqT.of (ha), rfl, rfl, _, rfl, ifF (k4_num _) ?_⟩
    refine ⟨_, rfl, a, _, _, _, rfl, rfl, SqT.of (ha), rfl, rfl, _, rfl, ifF (k4_late _) ?_⟩
    refine ⟨_, rfl, a, _, _, _, rfl, rfl, SqT.of (ha), rfl, rfl, _, rfl, ifF (k4_if _) ?_⟩
    refine ⟨_, rfl, a, _, _, _, rfl, rfl, SqT.of (ha), rfl, rfl, _, rfl, ifF (k4_call _) ?_⟩
    refine ⟨_, rfl, a, _, _, _, rfl, rfl, SqT.of ha, rfl, _, rfl, _, rfl, t1, u, d, kvs, nE, k, false, rfl, d1, hdd, w1, by omega, by omega, k0, fun H1 l1 xs1 is1 x1 hl1 hI1 hn1 hlen1 hok1 => ?_⟩
    have hlx1 := hI1.length
    have hlen1' : is1.length ≤ t1.wt := hlen1
    refine ⟨_, rfl, _, rfl, a, _, _, _, rfl, rfl, SqT.of (x1 _ _ ha), rfl, _, rfl, _, rfl, _, rfl, l1, xs1, rfl, .inl (SqL.of hl1), _, _, rfl, rfl, t2, v, d, kvs, nE, k + xs1.length, false, rfl, d2.ex x1, x1 _ _ hdd, w2, by omega, by omega, by omega, fun H2 l2 xs2 is2 x2 hl2 hI2 hn2 hlen2 hok2 => ?_⟩
    have hlx2 := hI2.length
    have hlen2' : is2.length ≤ t2.wt := hlen2
    have x12 := x1.trans x2
    refine ⟨l1, l2, _, _, rfl, rfl, x2 _ _ hl1, hl2, sz (by omega), ?_⟩
    intro p3 hp_p3
    generalize hG_p3 : upd _ p3 _ = H3
    obtain ⟨x3, g3⟩ := nw hp_p3 hG_p3
    have x13 := x12.trans x3
    refine ⟨_, rfl, a, _, _, _, rfl, rfl, SqT.of (x13 _ _ ha), rfl, z1, ?_⟩
    intro p4 hp_p4
    generalize hG_p4 : upd _ p4 _ = H4
    obtain ⟨x4, g4⟩ := nw hp_p4 hG_p4
    refine ⟨z1, ?_⟩
    intro p5 hp_p5
    generalize hG_p5 : upd _ p5 _ = H5
    obtain ⟨x5, g5⟩ := nw hp_p5 hG_p5
    have x35 := x4.trans x5
    refine ⟨p3, p5, _, _, rfl, rfl, x35 _ _ g3, g5, sz (by rw [List.length_append, List.length_singleton]; omega), ?_⟩
    intro p6 hp_p6
    generalize hG_p6 : upd _ p6 _ = H6
    obtain ⟨x6, g6⟩ := nw hp_p6 hG_p6
    have x36 := x35.trans x6
    have hI6 : InssAt H6 ((xs1 ++ xs2) ++ [.ref p4]) ((is1 ++ is2) ++ [.op k4]) := Paired.app (Paired.app (hI1.mono (Tx.of ((x2.trans x3).trans x36))) (hI2.mono (Tx.of (x3.trans x36)))) (.cons (show InsAt H6 (.ref p4) (.op k4) from ⟨p4, rfl, (x5.trans x6) _ _ g4⟩) .nil)
    have hl6 : (xs1 ++ xs2 ++ [V.ref p4]).length ≤ 1300 := by rw [List.length_append, List.length_append, List.length_singleton]; omega
    refine ⟨_, rfl, z1, ?_⟩
    intro u1 hp_u1
    generalize hG_u1 : upd _ u1 _ = J1
    obtain ⟨y1, j1⟩ := nw hp_u1 hG_u1
    refine ⟨z1, ?_⟩
    intro u2 hp_u2
    generalize hG_u2 : upd _ u2 _ = J2
    obtain ⟨y2, j2⟩ := nw hp_u2 hG_u2
    refine ⟨_, rfl, .inr ⟨_, rfl, u2, b2i b, [.ref u1], rfl, rfl, j2, b2i_lo b, b2i_hi b, b2i_sz b, ?_⟩⟩
    rw [rep_b]
    intro u3 hp_u3
    generalize hG_u3 : upd _ u3 _ = J3
    obtain ⟨y3, j3⟩ := nw hp_u3 hG_u3
    have y13 := (y1.trans y2).trans y3
    have hb3 : InssAt J3 (b2l b (.ref u1)) (b2l b .back) := b2l_at b ⟨u1, rfl, (y2.trans y3) _ _ j1⟩
    have hbl := b2l_len b (V.ref u1)
    refine ⟨p6, u3, _, _, rfl, rfl, y13 _ _ g6, j3, sz (by have := b2l_le b (V.ref u1); have := hl6; omega), ?_⟩
    intro u4 hp_u4
    generalize hG_u4 : upd _ u4 _ = J4
    obtain ⟨y4, j4⟩ := nw hp_u4 hG_u4
    have y14 := y13.trans y4
    refine q _ u4 _ (((is1 ++ is2) ++ [.op k4]) ++ b2l b .back) ((x13.trans x36).trans y14) j4 (Paired.app (hI6.mono (Tx.of y14)) (hb3.mono (Tx.of y4))) (by simp) ?_ ?_
    · have ef : (b2l false Ins.back).length = 0 := rfl
      have et : (b2l true Ins.back).length = 1 := rfl
      rw [List.length_append, List.length_append, List.length_append, List.length_singleton, hw2]
      cases b
      · rw [ef, if_neg Bool.false_ne_true]
        omega
      · rw [et, if_pos rfl]
        omega
    · have hk : ((((is1 ++ is2) ++ [Ins.op k4]) ++ b2l b Ins.back).length : Int) = is1.length + is2.length + 1 + b2i b := by
        have hbl2 := b2l_len b Ins.back
        rw [List.length_append, List.length_append, List.length_append, List.length_singleton]
        omega
      refine AllOk.mono (l := k + is1.length + is2.length) ?_ (by omega)
      refine AllOk.app (AllOk.app (AllOk.app (hok1.mono ?_) (hok2.mono ?_)) (AllOk.one trivial)) (by cases b <;> first | exact AllOk.nil | exact AllOk.one trivial)
      · show k + (is1.length : Int) - 0 ≤ _
        omega
      · show k + (xs1.length : Int) + (is2.length : Int) - 0 ≤ _
        omega
  | ife t0 t1 t2 =>
    obtain ⟨w0, w1, w2⟩ := id hw
    cases t0 with
    | two k4 tx ty =>
      obtain ⟨wl, wx, wy⟩ := w0
      subst wl
      obtain ⟨a, w, u, v, e, ha, ⟨a0, ux, uy, e0, ha0, dx, dy⟩, d1, d2⟩ := hd
      injection e with e _
      subst e
      injection e0 with e0 _
      subst e0
      have hw2 : (Tr.ife (.two .less tx ty) t1 t2).wt = 2 + (1 + tx.wt + ty.wt) + t1.wt + t2.wt := rfl
      have hh2 : (Tr.ife (.two .less tx ty) t1 t2).ht = max (max tx.ht ty.ht + 1) (max t1.ht t2.ht) + 1 := rfl
      refine ⟨_, rfl, a, _, _, _, rfl, rfl, SqT.of (ha), rfl, rfl, _, rfl, ifF (by decide +kernel) ?_⟩
      refine ⟨_, rfl, a, _, _, _, rfl, rfl, SqT.of (ha), rfl, rfl, _, rfl, ifF (by decide +kernel) ?_⟩
      refine ⟨_, rfl, a, _, _, _, rfl, rfl, SqT.of (ha), rfl, rfl, _, rfl, ifT (by decide +kernel) ?_⟩
      refine ⟨_, rfl, a, _, _, _, rfl, rfl, SqT.of ha, rfl, a0, _, _, _, rfl, rfl, SqT.of ha0, rfl, _, rfl, _, rfl, tx, ux, d, kvs, nE, k, false, rfl, dx, hdd, wx, by omega, by omega, k0, fun H1 l1 xs1 is1 x1 hl1 hI1 hn1 hlen1 hok1 => ?_⟩
      have hlx1 := hI1.length
      have hlen1' : is1.length ≤ tx.wt := hlen1
      refine ⟨_, rfl, _, rfl, a, _, _, _, rfl, rfl, SqT.of (x1 _ _ ha), rfl, a0, _, _, _, rfl, rfl, SqT.of (x1 _ _ ha0), rfl, _, rfl, _, rfl, _, rfl, l1, xs1, rfl, .inl (SqL.of hl1), _, _, rfl, rfl, ty, uy, d, kvs, nE, k + xs1.length, false, rfl, dy.ex x1, x1 _ _ hdd, wy, by omega, by omega, by omega,
        fun H2 l2 xs2 is2 x2 hl2 hI2 hn2 hlen2 hok2 => ?_⟩
      have hlx2 := hI2.length
      have hlen2' : is2.length ≤ ty.wt := hlen2
      have x12 := x1.trans x2
      refine ⟨l1, l2, _, _, rfl, rfl, x2 _ _ hl1, hl2, sz (by omega), ?_⟩
      intro p3 hp_p3
      generalize hG_p3 : upd _ p3 _ = H3
      obtain ⟨x3, g3⟩ := nw hp_p3 hG_p3
      refine ⟨z1, ?_⟩
      intro p4 hp_p4
      generalize hG_p4 : upd _ p4 _ = H4
      obtain ⟨x4, g4⟩ := nw hp_p4 hG_p4
      refine ⟨z1, ?_⟩
      intro p5 hp_p5
      generalize hG_p5 : upd _ p5 _ = H5
      obtain ⟨x5, g5⟩ := nw hp_p5 hG_p5
      have x35 := x4.trans x5
      refine ⟨p3, p5, _, _, rfl, rfl, x35 _ _ g3, g5, sz (by rw [List.length_append, List.length_singleton]; omega), ?_⟩
      intro p6 hp_p6
      generalize hG_p6 : upd _ p6 _ = H6
      obtain ⟨x6, g6⟩ := nw hp_p6 hG_p6
      have x36 := x35.trans x6
      have x16 := (x12.trans x3).trans x36
      have hI6 : InssAt H6 ((xs1 ++ xs2) ++ [.ref p4]) ((is1 ++ is2) ++ [.op .less]) := Paired.app (Paired.app (hI1.mono (Tx.of ((x2.trans x3).trans x36))) (hI2.mono (Tx.of (x3.trans x36)))) (.cons (show InsAt H6 (.ref p4) (.op .less) from ⟨p4, rfl, (x5.trans x6) _ _ g4⟩) .nil)
      have hlS : (xs1 ++ xs2 ++ [V.ref p4]).length = is1.length + is2.length + 1 := by rw [List.length_append, List.length_append, List.length_singleton, hlx1, hlx2]
      generalize hSe : xs1 ++ xs2 ++ [V.ref p4] = xS at g6 hI6 hlS
      have hS0 : AllOk nE (k + (is1.length + is2.length : Int)) ((is1 ++ is2) ++ [.op .less]) := by
        refine AllOk.app (AllOk.app (hok1.mono ?_) (hok2.mono ?_)) (AllOk.one trivial)
        · show k + (is1.length : Int) - 0 ≤ _
          omega
        · show k + (xs1.length : Int) + (is2.length : Int) - 0 ≤ _
          omega
      have hlS2 : ((is1 ++ is2) ++ [Ins.op K4.less]).length = is1.length + is2.length + 1 := by rw [List.length_append, List.length_append, List.length_singleton]
      generalize hSi : (is1 ++ is2) ++ [Ins.op K4.less] = iS at hI6 hS0 hlS2
      -- yes
      refine ⟨_, rfl, a, _, _, _, rfl, rfl, SqT.of (x16 _ _ ha), rfl, _, rfl, _, rfl, _, rfl, p6, xS, rfl, .inl (SqL.of g6), _, _, rfl, rfl, _, _, rfl, rfl, _, rfl, t1, u, d, kvs, nE, k + xS.length + 1, b, rfl, d1.ex x16, x16 _ _ hdd, w1, by omega, by omega, by omega,
        fun H7 l7 xs7 is7 x7 hl7 hI7 hn7 hlen7 hok7 => ?_⟩
      have hlx7 := hI7.length
      have x17 := x16.trans x7
      have hlen7' : is7.length ≤ 2 * t1.wt := by split at hlen7 <;> omega
      -- behind yes
      refine ⟨_, rfl, _, rfl, p6, xS, rfl, .inl (SqL.of (x7 _ _ g6)), _, _, rfl, rfl, _, _, rfl, rfl, _, rfl, l7, xs7, rfl, .inl (SqL.of hl7), _, _, rfl, rfl, _, rfl, ?_⟩
      refine ⟨_, rfl, .inr ⟨_, rfl, _, _, rfl, rfl, ?_⟩⟩
      have hb2 : b2i (!b) = 1 - b2i b := by cases b <;> decide
      have hb3 : 0 ≤ b2i b ∧ b2i b ≤ 1 := by cases b <;> decide
      -- no
      refine ⟨_, rfl, a, _, _, _, rfl, rfl, SqT.of (x17 _ _ ha), rfl, _, rfl, _, rfl, _, rfl, t2, v, d, kvs, nE, k + xS.length + 1 + xs7.length + b2i (!b), b, rfl, d2.ex x17, x17 _ _ hdd, w2, by omega, by omega, by omega,
        fun H8 l8 xs8 is8 x8 hl8 hI8 hn8 hlen8 hok8 => ?_⟩
      have hlx8 := hI8.length
      have x18 := x17.trans x8
      have hlen8' : is8.length ≤ 2 * t2.wt := by split at hlen8 <;> omega
      refine ⟨_, rfl, _, rfl, z2, ?_⟩
      intro p9 hp_p9
      generalize hG_p9 : upd _ p9 _ = H9
      obtain ⟨x9, g9⟩ := nw hp_p9 hG_p9
      refine ⟨z1, ?_⟩
      intro p10 hp_p10
      generalize hG_p10 : upd _ p10 _ = H10
      obtain ⟨x10, g10⟩ := nw hp_p10 hG_p10
      have y10 := x9.trans x10
      have hS10 := y10 _ _ (x8 _ _ (x7 _ _ g6))
      refine ⟨p6, p10, xS, _, rfl, rfl, hS10, g10, sz (by rw [List.length_singleton]; omega), ?_⟩
      intro p11 hp_p11
      generalize hG_p11 : upd _ p11 _ = H11
      obtain ⟨x11, g11⟩ := nw hp_p11 hG_p11
      have y11 := y10.trans x11
      refine ⟨_, rfl, p11, l7, _, xs7, rfl, rfl, g11, y11 _ _ (x8 _ _ hl7), sz (by rw [List.length_append, List.length_singleton]; omega), ?_⟩
      intro p12 hp_p12
      generalize hG_p12 : upd _ p12 _ = H12
      obtain ⟨x12', g12⟩ := nw hp_p12 hG_p12
      have y12 := y11.trans x12'
      refine ⟨_, rfl, _, rfl, l8, xs8, rfl, .inl (SqL.of (y12 _ _ hl8)), _, _, rfl, rfl, z2, ?_⟩
      intro p13 hp_p13
      generalize hG_p13 : upd _ p13 _ = H13
      obtain ⟨x13', g13⟩ := nw hp_p13 hG_p13
      refine ⟨z1, ?_⟩
      intro p14 hp_p14
      generalize hG_p14 : upd _ p14 _ = H14
      obtain ⟨x14, g14⟩ := nw hp_p14 hG_p14
      refine ⟨_, rfl, _, rfl, .inr ⟨_, rfl, p14, b2i (!b), [.ref p13], rfl, rfl, g14, b2i_lo _, b2i_hi _, b2i_sz _, ?_⟩⟩
      have er : (List.replicate (b2i (!b)).toNat [V.ref p13]).flatten = b2l (!b) (.ref p13) := rep_b _
      rw [er]
      intro p15 hp_p15
      generalize hG_p15 : upd _ p15 _ = H15
      obtain ⟨x15, g15⟩ := nw hp_p15 hG_p15
      have hbl := b2l_le (!b) (V.ref p13)
      have x12b := (x13'.trans x14).trans x15
      have hl12 : (xS ++ [V.ref p9] ++ xs7).length = xS.length + 1 + xs7.length := by rw [List.length_append, List.length_append, List.length_singleton]
      refine ⟨p12, p15, _, _, rfl, rfl, x12b _ _ g12, g15, sz (by omega), ?_⟩
      intro p16 hp_p16
      generalize hG_p16 : upd _ p16 _ = H16
      obtain ⟨x16', g16⟩ := nw hp_p16 hG_p16
      refine ⟨_, rfl, p16, l8, _, xs8, rfl, rfl, g16, (x12b.trans x16') _ _ (y12 _ _ hl8), sz (by rw [List.length_append]; omega), ?_⟩
      intro p17 hp_p17
      generalize hG_p17 : upd _ p17 _ = H17
      obtain ⟨x17', g17⟩ := nw hp_p17 hG_p17
      have zz9 : Ex H9 H17 := (((x10.trans x11).trans x12').trans ((x12b.trans x16').trans x17'))
      have zz8 : Ex H8 H17 := x9.trans zz9
      have zz13 : Ex H13 H17 := ((x14.trans x15).trans x16').trans x17'
      have g9' : H9 p9 = some (.tup [.str "zero", .int (k + (xS.length : Int) + 1 + (xs7.length : Int) + b2i (!b))]) := g9
      have g13' : H13 p13 = some (.tup [.str "jump", .int (k + (xS.length : Int) + 1 + (xs7.length : Int) + b2i (!b) + xs8.length)]) := g13
      have f7 : b = false → is7.length ≤ t1.wt := fun z => by
        subst z
        exact hlen7
      have f8 : b = false → is8.length ≤ t2.wt := fun z => by
        subst z
        exact hlen8
      generalize hAf : k + (xS.length : Int) + 1 + (xs7.length : Int) + b2i (!b) = aft at *
      refine ⟨_, rfl, q _ p17 _ ((((iS ++ [.zero aft]) ++ is7) ++ b2l (!b) (.jump (aft + xs8.length))) ++ is8) (x18.trans zz8) g17 ?_ (by simp [hn8]) ?_ ?_⟩
      · exact Paired.app (Paired.app (Paired.app (Paired.app (hI6.mono (Tx.of ((x7.trans x8).trans zz8))) (.cons (show InsAt H17 (.ref p9) (.zero aft) from ⟨p9, rfl, zz9 _ _ g9'⟩) .nil)) (hI7.mono (Tx.of (x8.trans zz8)))) (b2l_at _ (show InsAt H17 (.ref p13) (.jump (aft + xs8.length)) from ⟨p13, rfl, zz13 _ _ g13'⟩))) (hI8.mono (Tx.of zz8))
      · have hj : (b2l (!b) (Ins.jump (aft + xs8.length))).length = (if b = true then 0 else 1) := by cases b <;> rfl
        rw [List.length_append, List.length_append, List.length_append, List.length_append, List.length_singleton, hj, hw2]
        by_cases z : b = true
        · rw [if_pos z, if_pos z]
          omega
        · have f7 := f7 (by simpa using z)
          have f8 := f8 (by simpa using z)
          rw [if_neg z, if_neg z]
          omega
      · have hlt : (((((iS ++ [Ins.zero aft]) ++ is7) ++ b2l (!b) (Ins.jump (aft + xs8.length))) ++ is8).length : Int) = aft - k + is8.length := by
          have hj := b2l_len (!b) (Ins.jump (aft + xs8.length))
          rw [List.length_append, List.length_append, List.length_append, List.length_append, List.length_singleton]
          omega
        have h8p : 1 ≤ is8.length := List.length_pos_iff.mpr hn8
        rw [hlt]
        refine AllOk.app (AllOk.app (AllOk.app (AllOk.app (hS0.mono (by omega)) (AllOk.one ⟨by omega, by omega⟩)) (hok7.mono (by omega))) ?_) (hok8.mono (by omega))
        cases b
        · exact AllOk.one ⟨by omega, by show aft + (xs8.length : Int) ≤ _; have : b2i false = 0 := rfl; omega⟩
        · exact AllOk.nil
    | num m => exact w0.elim
    | late m => exact w0.elim
    | early => exact w0.elim
    | ife t0 t1 t2 => exact w0.elim
    | call f mk mc as => exact w0.elim
    | pcall f as => exact w0.elim
    | nil => exact w0.elim
    | cons a r => exact w0.elim
    | blw c => exact w0.elim
    | rst m r => exact w0.elim
  | pcall fn as =>
    obtain ⟨a, b0, ys, e, ha, hb, das⟩ := hd
    injection e with e _
    subst e
    obtain ⟨⟨j, hj1, hj2, hj3⟩, w1⟩ := id hw
    have hw2 : (Tr.pcall fn as).wt = 1 + as.wt := rfl
    have hh2 : (Tr.pcall fn as).ht = as.ht + 1 := rfl
    obtain ⟨ts, rfl, hP, hts⟩ := das.argsP w1
    have hly := hP.length
    refine ⟨_, rfl, a, _, _, _, rfl, rfl, SqT.of (ha), rfl, rfl, _, rfl, ifF (by decide +kernel) ?_⟩
    refine ⟨_, rfl, a, _, _, _, rfl, rfl, SqT.of (ha), rfl, rfl, _, rfl, ifF (by decide +kernel) ?_⟩
    refine ⟨_, rfl, a, _, _, _, rfl, rfl, SqT.of (ha), rfl, rfl, _, rfl, ifF (by decide +kernel) ?_⟩
    refine ⟨_, rfl, a, _, _, _, rfl, rfl, SqT.of (ha), rfl, rfl, _, rfl, ifT (by decide +kernel) ?_⟩
    refine ⟨z0, ?_⟩
    intro p1 hp_p1
    generalize hG_p1 : upd _ p1 _ = H1
    obtain ⟨x1, g1⟩ := nw hp_p1 hG_p1
    refine ⟨_, rfl, a, _, _, _, rfl, rfl, SqT.of (x1 _ _ ha), rfl, b0, rfl, ⟨_, SqT.of (x1 _ _ hb)⟩, ?_⟩
    refine for_tup (K := K) (a := b0) (xs := ys) (fun i σ' H' => ∃ (l : Addr) (xs : List V) (is : List Ins) (v5 v6 v7 v8 : Option V), σ' = [some (.ref a), some (.ref d), some (.int k), some (.bl b), some (.ref l), v5, v6, v7, v8] ∧ Ex H1 H' ∧ H' l = some (.lst xs) ∧ InssAt H' xs is ∧
        is.length ≤ (mkA (ts.take i)).wt ∧ AllOk nE (k + is.length) is) ⟨p1, [], [], _, _, _, _, rfl, Ex.refl _, g1, .nil, Nat.zero_le _, AllOk.nil⟩ ?_ ?_ ?_
    · rintro i _ H' _ ⟨_, _, _, _, _, _, _, _, x2, _⟩
      exact SqT.of (x2 _ _ (x1 _ _ hb))
    · rintro i y _ H2 hy ⟨l, xs, is, v5, v6, v7, v8, rfl, x2, hl, hI, hlen, hok⟩
      obtain ⟨t, ht1, hdt⟩ := Paired.at_ hP hy
      have x12 := x1.trans x2
      have htm := List.mem_of_getElem? ht1
      obtain ⟨wt1, wt2⟩ := hts t htm
      have wt3 := mkA_mem htm
      have wt4 := mkA_take ht1
      have wt5 := mkA_le ts (i + 1)
      have hlx := hI.length
      refine ⟨_, rfl, _, rfl, _, rfl, _, rfl, _, rfl, l, xs, rfl, .inl (SqL.of hl), _, _, rfl, rfl, t, y, d, kvs, nE, k + xs.length, false, rfl, hdt.ex x12, x12 _ _ hdd, wt1, by omega, by omega, by omega, fun H3 l3 xs3 is3 x3 hl3 hI3 hn3 hlen3 hok3 => ?_⟩
      have hlen3' : is3.length ≤ t.wt := hlen3
      have hlx3 := hI3.length
      refine ⟨l, l3, xs, xs3, rfl, rfl, x3 _ _ hl, hl3, sz (by omega), ?_⟩
      intro p4 hp_p4
      generalize hG_p4 : upd _ p4 _ = H4
      obtain ⟨x4, g4⟩ := nw hp_p4 hG_p4
      refine ⟨p4, _, is ++ is3, _, _, _, _, rfl, (x2.trans x3).trans x4, g4, Paired.app (hI.mono (Tx.of (x3.trans x4))) (hI3.mono (Tx.of x4)), by rw [List.length_append]; omega, ?_⟩
      rw [List.length_append]
      refine AllOk.app (hok.mono (by omega)) (hok3.mono ?_)
      show k + (xs.length : Int) + (is3.length : Int) - 0 ≤ _
      omega
    · rintro _ H2 ⟨l, xs, is, v5, v6, v7, v8, rfl, x2, hl, hI, hlen, hok⟩
      rw [List.take_of_length_le (by omega)] at hlen
      have x12 := x1.trans x2
      have hlx := hI.length
      have fin : ∀ (tg : Str) (i : Ins) (H3 : Hp) (p : Addr), Ex H2 H3 → i.v = [.str tg, .int j] → i.ok nE 0 → H3 p = some (.tup [.str tg, .int j]) → (z1 : 1 ≤ sizeLine) = z1 → ∀ p4, H3 p4 = none → rCat (.ref l) (.ref p4) (upd H3 p4 (.lst [.ref p])) Q := fun tg i H3 p x3 hi ho hp _ p4 hp4 => by
        have x4 := Ex.new (o := .lst [.ref p]) hp4
        refine ⟨l, p4, xs, [.ref p], rfl, rfl, x4 _ _ (x3 _ _ hl), upd_same, sz (by show xs.length + 1 ≤ _; omega), fun p5 hp5 => ?_⟩
        have x5 := Ex.new (o := .lst (xs ++ [.ref p])) hp5
        have x45 := x4.trans x5
        refine q _ p5 _ (is ++ [i]) (x12.trans (x3.trans x45)) upd_same (Paired.app (hI.mono (Tx.of (x3.trans x45))) (.cons ⟨p, rfl, by rw [hi]; exact x45 _ _ hp⟩ .nil)) (by simp) ?_ ?_
        · rw [List.length_append, List.length_singleton]
          split <;> omega
        · have hb1 : b2i b ≤ 1 := by cases b <;> decide
          rw [List.length_append, List.length_singleton]
          refine AllOk.app (hok.mono (by omega)) (AllOk.one ?_)
          exact ho.mono (by omega)
      refine ⟨_, rfl, _, rfl, _, rfl, if2 (fun c => ?_) (fun c => ?_)⟩
      · refine ⟨_, rfl, _, rfl, a, _, _, _, rfl, rfl, SqT.of (x12 _ _ ha), rfl, d, _, rfl, by rw [← hj1]; exact DGet.k (k := .inr fn) (x12 _ _ hdd), z2, ?_⟩
        intro p3 hp_p3
        generalize hG_p3 : upd _ p3 _ = H3
        obtain ⟨x3, g3⟩ := nw hp_p3 hG_p3
        exact ⟨z1, fin "tail" (.tail j) H3 p3 x3 rfl ⟨hj2, hj3⟩ g3 rfl⟩
      · refine ⟨_, rfl, _, rfl, a, _, _, _, rfl, rfl, SqT.of (x12 _ _ ha), rfl, d, _, rfl, by rw [← hj1]; exact DGet.k (k := .inr fn) (x12 _ _ hdd), z2, ?_⟩
        intro p3 hp_p3
        generalize hG_p3 : upd _ p3 _ = H3
        obtain ⟨x3, g3⟩ := nw hp_p3 hG_p3
        exact ⟨z1, fin "call" (.call j) H3 p3 x3 rfl ⟨hj2, hj3⟩ g3 rfl⟩
  | early => exact hw.elim
  | call f' mk mc as => exact hw.elim
  | blw c => exact hw.elim
  | rst m r => exact hw.elim
  | nil => exact hw.elim
  | cons a r => exact hw.elim
theorem l_put (D : Dd K mg "_law_put" s_law_put ["_law_one", "_law_numbers", "_law_at", "_law_is_last"]) (T : Tb K mg) : ∀ n : Nat, Dn P w K mg base L2.CX0 n "_law_put" (spPut n)
  | 0 => D.none fun vs H Q E h => by
    obtain ⟨t, v, d, kvs, nE, k, b, _, _, _, hw, hh, _⟩ := h
    cases t <;> first | (simp only [Tr.ht] at hh; omega) | exact hw.elim
  | n + 1 => ok_l_put D T (l_put D T n)
end

end M10
set_option Elab.async false
set_option linter.all false
set_option maxRecDepth 100000
set_option maxHeartbeats 4000000
namespace M10
open PySem PySem.Spec PyProof.Rows L2 Evl
variable {sa : Addr}
/-! ### a code -/
def EntAt (H : Hp) (x : V) (e : Int × Int) : Prop := ∃ a, x = .ref a ∧ H a = some (.tup [.int e.1, .int e.2])
theorem EntAt.mono {H H' : Hp} {x : V} {e : Int × Int} (h : EntAt H x e) (t : Tx H H') : EntAt H' x e := by
  obtain ⟨a, e1, e2⟩ := h
  exact ⟨a, e1, t _ _ e2⟩
abbrev EntsAt (H : Hp) (xs : List V) (es : List (Int × Int)) : Prop := Paired (EntAt H) xs es
theorem EntsAt.mono {H H' : Hp} {xs : List V} {es : List (Int × Int)} (h : EntsAt H xs es) (t : Tx H H') : EntsAt H' xs es := L2.Paired.mapP h fun _ _ h => EntAt.mono h t
structure CodeAt (H : Hp) (c e s : Addr) (exs ixs : List V) (es : List (Int × Int)) (is : List Ins) : Prop where
  c : H c = some (.tup [.ref e, .ref s])
  e : H e = some (.tup exs)
  s : H s = some (.tup ixs)
  es : EntsAt H exs es
  is : InssAt H ixs is
theorem CodeAt.mono {H H' : Hp} {c e s : Addr} {exs ixs : List V} {es : List (Int × Int)} {is : List Ins} (h : CodeAt H c e s exs ixs es is) (t : Tx H H') : CodeAt H' c e s exs ixs es is :=
  ⟨t _ _ h.c, t _ _ h.e, t _ _ h.s, h.es.mono t, h.is.mono t⟩
structure CodeOk (es : List (Int × Int)) (is : List Ins) : Prop where
  hd : ∃ m r, es = (0, m) :: r
  elen : es.length ≤ 300
  inc : es.Pairwise fun a b => a.1 < b.1
  ent : ∀ e ∈ es, 0 ≤ e.1 ∧ e.1 < is.length ∧ 0 ≤ e.2 ∧ e.2 ≤ 2
  ins : AllOk es.length ((is.length : Int) - 1) is
  ilen : is.length ≤ 100000
theorem CodeOk.ipos {es : List (Int × Int)} {is : List Ins} (h : CodeOk es is) : 1 ≤ is.length := by
  obtain ⟨m, r, e⟩ := h.hd
  have := h.ent (0, m) (by rw [e]; exact List.mem_cons_self)
  have h2 : (0 : Int) < is.length := this.2.1
  omega
def spCode : Sp := fun vs H Q _ => ∃ (p : Addr) (xs : List V) (pl : List Fun3), vs = [.ref p] ∧ H p = some (.tup xs) ∧ F3s H xs pl ∧ WfPl pl ∧
  ∀ H' c e s exs ixs es is, Ex H H' → CodeAt H' c e s exs ixs es is → CodeOk es is → Q (.ref c) H'
section
variable {P : Program} {w : World} {K : PySem.W.Frag} {mg : Str → Option Value} {base : Heap}
theorem sc_law_code : FnScope ["_law_plain_here", "_law_numbers", "_law_entries", "_law_found", "_law_k", "_law_name_here", "_law_many", "_law_body_here"] ["_law_plain_here"] (defScope s_law_code) := ⟨rfl, rfl, rfl, by decide +kernel, rfl, by decide +kernel, by decide +kernel⟩
theorem ok_l_code (D : Dd K mg "_law_code" s_law_code ["_law_plain_here"]) (T : Tb K mg) (c_l_put : Dn P w K mg base L2.CX0 12 "_law_put" (spPut 12)) : Dn P w K mg base L2.CX0 13 "_law_code" spCode := by
  refine D.ok sc_law_code (fun vs H Q E h => by obtain ⟨p, xs, pl, rfl, _⟩ := h; rfl) (fun f cdv A outer s H vs Q E hr h => ?_)
  have hu : (A.deeper (envOfC "_law_code" (defScope s_law_code) s.heap.objs.size f cdv)).units + 1 < cLine := by
    have := hr.un
    omega
  obtain ⟨p, xs, pl, rfl, hp, hF, hW, q⟩ := h
  refine ⟨_, (pss_cons (ps_par3 (i := 1) (j := 2) (l := 3) (by rfl) sc_law_code.nd rfl rfl rfl (by decide) (by decide) (by decide) rfl rfl rfl (pa_cons pe_dnewK (pa_cons (pe_lst pa_nil) (pa_cons (pe_lst pa_nil) pa_nil))) (by rfl))
    (pss_cons (ps_for PassesOwn.never rfl (pi_range1 rfl T.range (pa_cons (pcb call_len_seq T.len (pa_cons (pv 0) pa_nil)) pa_nil)) (gnm 4 sc_law_code.nd) (pss_one (ps_dput hu (pv 1) (pe_ix ix_tup (pe_ix ix_tup (pv 0) (pv 4) (fun _ _ => rfl)) pe_int (fun _ _ => rfl)) (pv 4) rfl)))
    (pss_cons (ps_for PassesOwn.never rfl (pi_tup (pv 0)) (pg_tup rfl (pgs_cons (gnm 5 sc_law_code.nd) (pgs_cons (gnm 6 sc_law_code.nd) (pgs_cons (gnm 7 sc_law_code.nd) pgs_nil)))) (pss_cons (ps_expr (pe_bm PySem.F.plainAttrs_list PySem.F.slot_list_append PySem.F.type_list_append mt_append (pv 2) (pa_cons (pe_tup (pa_cons (pcb call_len_seq T.len (pa_cons (pv 3) pa_nil)) (pa_cons (pv 6) pa_nil))) pa_nil)))
    (pss_one (sset 3 sc_law_code.nd (pe_op op_cat (pv 3) (pe_c0 c_l_put hr (pa_cons (pv 7) (pa_cons (pv 1) (pa_cons (pcb call_len_seq T.len (pa_cons (pv 3) pa_nil)) (pa_cons pe_bl pa_nil))))))))))
    (pss_one (ps_ret (pe_tup (pa_cons (pct call_tuple_of T.tuple (pa_cons (pv 2) pa_nil)) (pa_cons (pct call_tuple_of T.tuple (pa_cons (pv 3) pa_nil)) pa_nil)))))))), ?_⟩
  have hlx := hF.length
  have hlw := hW.len
  intro d hp_d
  generalize hG_d : upd _ d _ = H1
  obtain ⟨x1, g1⟩ := nw hp_d hG_d
  refine ⟨z0, ?_⟩
  intro e hp_e
  generalize hG_e : upd _ e _ = H2
  obtain ⟨x2, g2⟩ := nw hp_e hG_e
  refine ⟨z0, ?_⟩
  intro fo hp_fo
  generalize hG_fo : upd _ fo _ = H3
  obtain ⟨x3, g3⟩ := nw hp_fo hG_fo
  refine ⟨_, _, _, rfl, ?_⟩
  have hd0 : H d = none := hp_d
  have he0 : H e = none := fresh_back x1 hp_e
  have hfo0 : H fo = none := fresh_back (x1.trans x2) hp_fo
  have nde : d ≠ e := ne_of_none g1 hp_e
  have x13 := (x1.trans x2).trans x3
  have nfd : fo ≠ d := (ne_of_none (x2 _ _ g1) hp_fo).symm
  have nfe : fo ≠ e := (ne_of_none g2 hp_fo).symm
  refine ⟨_, rfl, p, xs, rfl, .inr (SqT.of (x13 _ _ hp)), _, rfl, by omega, by omega, ?_⟩
  refine for_range (lo := 0) (n := xs.length) (fun i σ' H' => ∃ (v4 : Option V) (kvs : List (Key × V)), σ' = [some (.ref p), some (.ref d), some (.ref e), some (.ref fo), v4, none, none, none] ∧ Ex H H' ∧ H' d = some (.dK kvs) ∧ kvs.length ≤ i ∧ (∀ q ∈ pl.take i, NumOk kvs pl.length q.1) ∧ H' e = some (.lst []) ∧ H' fo = some (.lst []))
    ⟨_, [], rfl, x13, x3 _ _ (x2 _ _ g1), Nat.le_refl _, fun q hq => by simp at hq, x3 _ _ g2, g3⟩ ?_ ?_
  · rintro i _ H' hi ⟨v4, kvs, rfl, x', hd', hlk, hnum, he', hfo'⟩
    obtain ⟨y, hy⟩ : ∃ y, xs[i]? = some y := ⟨_, List.getElem?_eq_getElem hi⟩
    obtain ⟨q1, hq1, a, v, rfl, ha, hb⟩ := Paired.at_ hF hy
    refine ⟨_, rfl, _, rfl, _, rfl, _, rfl, p, xs, _, .ref a, rfl, rfl, SqT.of (x' _ _ hp), by rw [Int.zero_add]; exact atI_nat hy, a, _, _, _, rfl, rfl, SqT.of (x' _ _ ha), rfl, d, _, rfl, DPut.k (k := .inr q1.1) hd' (sz' (by omega)), ?_⟩
    have ned : e ≠ d := nde.symm
    refine ⟨_, _, rfl, Ex.put x' hd0, upd_same, Nat.le_trans (length_putK _ _ _) (by omega), fun q hq => ?_, by rw [upd_ne ned]; exact he', by rw [upd_ne nfd]; exact hfo'⟩
    have hi2 : i < pl.length := by omega
    by_cases z : q.1 = q1.1
    · refine ⟨(i : Int), ?_, by omega, by omega⟩
      rw [valV_put, z, if_pos rfl]
      simp
    · have hq' : q ∈ pl.take i := by
        rw [take_snoc hq1] at hq
        rcases List.mem_append.mp hq with hq | hq
        · exact hq
        · exact absurd (by rw [List.mem_singleton.mp hq]) z
      obtain ⟨j, h1, h2, h3⟩ := hnum q hq'
      refine ⟨j, ?_, h2, h3⟩
      rw [valV_put, if_neg (fun y => z (Sum.inr.inj y))]
      exact h1
  · rintro _ H5 ⟨v4, kvs, rfl, x5, hd5, hlk, hnum, he5, hfo5⟩
    rw [List.take_of_length_le (by omega)] at hnum
    have hpf : ∀ q ∈ pl, Pf (NumOk kvs pl.length) q.2.2 .e ∧ q.2.2.wt ≤ 600 ∧ q.2.2.ht ≤ 12 := fun q hq => by
      obtain ⟨a1, a2, a3, a4, a5⟩ := hW.ok q hq
      exact ⟨a3.mono fun x _ ⟨r, h1, h2⟩ => h2 ▸ hnum r h1, a4, a5⟩
    refine ⟨_, rfl, p, rfl, ⟨_, SqT.of (x5 _ _ hp)⟩, ?_⟩
    refine for_tup (K := K) (a := p) (xs := xs) (fun i σ' H' => ∃ (v4 v5 v6 v7 : Option V) (f2 : Addr) (exs ixs : List V) (es : List (Int × Int)) (is : List Ins), σ' = [some (.ref p), some (.ref d), some (.ref e), some (.ref f2), v4, v5, v6, v7] ∧ Ex H H' ∧ H' d = some (.dK kvs) ∧
        H' e = some (.lst exs) ∧ EntsAt H' exs es ∧ H' f2 = some (.lst ixs) ∧ InssAt H' ixs is ∧ f2 ≠ e ∧ es.length = i ∧ is.length ≤ i * 1200 ∧ (1 ≤ i → ∃ m r, es = (0, m) :: r) ∧ es.Pairwise (fun a b => a.1 < b.1) ∧
        (∀ e ∈ es, 0 ≤ e.1 ∧ e.1 < is.length ∧ 0 ≤ e.2 ∧ e.2 ≤ 2) ∧ AllOk pl.length ((is.length : Int) - 1) is ∧ (i = 0 → is = []))
      ⟨_, _, _, _, fo, [], [], [], [], rfl, x5, hd5, he5, .nil, hfo5, .nil, nfe, rfl, Nat.le_refl _, fun z => absurd z (by decide), .nil, fun e he => absurd he List.not_mem_nil, AllOk.nil, fun _ => rfl⟩ ?_ ?_ ?_
    · rintro i _ H' _ ⟨_, _, _, _, _, _, _, _, _, _, x', _⟩
      exact SqT.of (x' _ _ hp)
    · rintro i y _ H6 hy ⟨v4, v5, v6, v7, f2, exs, ixs, es, is, rfl, x6, hd6, he6, hes, hf6, his, nf2, hel, hil, hhd, hinc, hent, hok, hz⟩
      obtain ⟨q1, hq1, a, v, rfl, ha, hb⟩ := Paired.at_ hF hy
      have hi2 : i < xs.length := (List.getElem?_eq_some_iff.mp hy).1
      have hqm := List.mem_of_getElem? hq1
      obtain ⟨b1, b2, b3⟩ := hpf q1 hqm
      obtain ⟨m0, m2, _⟩ := hW.ok q1 hqm
      have hlx2 := hes.length
      have hli := his.length
      refine ⟨a, _, rfl, SqT.of (x6 _ _ ha), rfl, _, _, rfl, _, _, rfl, _, _, rfl, rfl, ?_⟩
      refine ⟨_, rfl, (.inl ⟨rfl, _, SqL.of he6⟩), _, rfl, f2, ixs, rfl, .inl (SqL.of hf6), _, rfl, z2, ?_⟩
      intro p7 hp_p7
      generalize hG_p7 : upd _ p7 _ = H7
      obtain ⟨x7, g7⟩ := nw hp_p7 hG_p7
      have he7 := x7 _ _ he6
      refine ⟨e, exs, _, rfl, rfl, he7, sz' (by omega), ?_⟩
      have t8 : Tx H7 (upd H7 e (.lst (exs ++ [.ref p7]))) := Tx.put he7 fun xs z => by cases z
      have x8 : Ex H (upd H7 e (.lst (exs ++ [.ref p7]))) := Ex.put (x6.trans x7) he0
      have hd8 : (upd H7 e (.lst (exs ++ [.ref p7]))) d = some (.dK kvs) := by rw [upd_ne nde]; exact x7 _ _ hd6
      have hf8 : (upd H7 e (.lst (exs ++ [.ref p7]))) f2 = some (.lst ixs) := by rw [upd_ne nf2]; exact x7 _ _ hf6
      have he8 : (upd H7 e (.lst (exs ++ [.ref p7]))) e = some (.lst (exs ++ [.ref p7])) := upd_same
      have t68 := (Tx.of x7).trans t8
      have hp8 := t8 _ _ g7
      generalize hH8 : upd H7 e (.lst (exs ++ [.ref p7])) = H8 at *
      refine ⟨_, rfl, _, rfl, _, rfl, _, rfl, f2, ixs, rfl, .inl (SqL.of hf8), q1.2.2, v, d, kvs, pl.length, ixs.length, true, rfl, hb.mono (Tx.of x8), hd8, b1, b3, b2, by omega, fun H9 l9 xs9 is9 x9 hl9 hI9 hn9 hlen9 hok9 => ?_⟩
      have hlen9' : is9.length ≤ 2 * q1.2.2.wt := hlen9
      have hl9x := hI9.length
      refine ⟨f2, l9, ixs, xs9, rfl, rfl, x9 _ _ hf8, hl9, sz (by omega), ?_⟩
      intro p10 hp_p10
      generalize hG_p10 : upd _ p10 _ = H10
      obtain ⟨x10, g10⟩ := nw hp_p10 hG_p10
      have x810 := x9.trans x10
      have h9p : 1 ≤ is9.length := List.length_pos_iff.mpr hn9
      have ne10 : p10 ≠ e := (ne_of_none (x9 _ _ he8) hp_p10).symm
      refine ⟨_, _, _, _, p10, exs ++ [.ref p7], _, es ++ [((is.length : Int), q1.2.1)], is ++ is9, rfl, x8.trans x810, x810 _ _ hd8, x810 _ _ he8, Paired.app ((hes.mono t68).mono (Tx.of x810)) (.cons (show EntAt H10 (.ref p7) ((is.length : Int), q1.2.1) from ⟨p7, rfl, by rw [← hli]; exact x810 _ _ hp8⟩) .nil),
        g10, Paired.app ((his.mono t68).mono (Tx.of x810)) (hI9.mono (Tx.of x10)), ne10, by rw [List.length_append, List.length_singleton, hel], by rw [List.length_append]; omega, fun _ => ?_, ?_, fun e1 he1 => ?_, ?_, fun z => absurd z (by omega)⟩
      · by_cases z : i = 0
        · have e1 : es = [] := List.length_eq_zero_iff.mp (by omega)
          rw [e1, hz z]
          exact ⟨_, _, rfl⟩
        · obtain ⟨m3, r3, e1⟩ := hhd (by omega)
          rw [e1]
          exact ⟨_, _, rfl⟩
      · refine List.pairwise_append.mpr ⟨hinc, List.pairwise_singleton _ _, fun e1 he1 e2 he2 => ?_⟩
        rw [List.mem_singleton.mp he2]
        exact (hent e1 he1).2.1
      · rw [List.length_append]
        rcases List.mem_append.mp he1 with he1 | he1
        · have := hent e1 he1
          exact ⟨this.1, by omega, this.2.2⟩
        · rw [List.mem_singleton.mp he1]
          exact ⟨by show (0 : Int) ≤ is.length; omega, by show (is.length : Int) < _; omega, m0, m2⟩
      · have hb1 : b2i true = 1 := rfl
        rw [List.length_append]
        exact AllOk.app (hok.mono (by omega)) (hok9.mono (by omega))
    · rintro _ H6 ⟨v4, v5, v6, v7, f2, exs, ixs, es, is, rfl, x6, hd6, he6, hes, hf6, his, nf2, hel, hil, hhd, hinc, hent, hok, hz⟩
      have hne := List.length_pos_iff.mpr hW.ne
      refine ⟨_, rfl, e, exs, rfl, .inl ⟨SqL.of he6, ?_⟩⟩
      intro p7 hp_p7
      generalize hG_p7 : upd _ p7 _ = H7
      obtain ⟨x7, g7⟩ := nw hp_p7 hG_p7
      refine ⟨_, rfl, f2, ixs, rfl, .inl ⟨SqL.of (x7 _ _ hf6), ?_⟩⟩
      intro p8 hp_p8
      generalize hG_p8 : upd _ p8 _ = H8
      obtain ⟨x8, g8⟩ := nw hp_p8 hG_p8
      refine ⟨z2, ?_⟩
      intro p9 hp_p9
      generalize hG_p9 : upd _ p9 _ = H9
      obtain ⟨x9, g9⟩ := nw hp_p9 hG_p9
      have x79 := (x7.trans x8).trans x9
      exact q _ _ _ _ _ _ _ _ (x6.trans x79) ⟨g9, (x8.trans x9) _ _ g7, x9 _ _ g8, hes.mono (Tx.of x79), his.mono (Tx.of x79)⟩ ⟨hhd (by omega), by omega, hinc, hent, by rw [hel, hlx]; exact hok, by omega⟩
end

end M10
set_option Elab.async false
set_option linter.all false
set_option maxRecDepth 100000
set_option maxHeartbeats 4000000
namespace M10
open PySem PySem.Spec PyProof.Rows L2 Evl
variable {sa : Addr}
/-! ### a plain program -/
def spPlain (K : PySem.W.Frag) (sa : Addr) : Sp := fun vs H Q _ => ∃ r : Addr, vs = [.ref r, .int 16] ∧ Row K sa H r ∧ ∀ H' l xs pl, Dr K sa r H H' → H' l = some (.tup xs) → F3s H' xs pl → WfPl pl → Q (.ref l) H'
abbrev f0t : Tr := .ife (.two .less (.late 0) (.num 3)) (.num 7) (.pcall "f_0" (.cons (.two .minus (.late 0) (.num 1)) .nil))
theorem f0_ok : WfPl [("f_0", 1, f0t)] := by
  refine ⟨by simp, by decide, fun q hq => ?_⟩
  rw [List.mem_singleton.mp hq]
  refine ⟨by decide, by decide, ⟨⟨rfl, ⟨by decide, by decide⟩, ⟨by decide, by decide⟩⟩, ⟨by decide, by decide⟩, ⟨_, List.mem_cons_self, rfl⟩, ⟨by decide, ⟨by decide, by decide⟩, ⟨by decide, by decide⟩⟩, trivial⟩, by decide, by decide⟩
section
variable {P : Program} {w : World} {K : PySem.W.Frag} {mg : Str → Option Value} {base : Heap}
theorem sc_law_plain : FnScope ["_law_row", "_law_most", "_law_program_here", "_law_name_here", "_law_many", "_law_body_here", "_law_plain_here"] ["_law_row", "_law_most"] (defScope s_law_plain) := ⟨rfl, rfl, rfl, by decide +kernel, rfl, by decide +kernel, by decide +kernel⟩
theorem ok_l_plain (D : Dd K mg "_law_plain" s_law_plain ["_law_row", "_law_most"]) (T : Tb K mg) (c_l_program : Dn P w K mg base L2.CX0 39 "_law_program" (spProgram K sa)) (c_l_pick : Dn P w K mg base L2.CX0 2 "_law_pick" (spPick K sa)) (c_l_taken : Dn P w K mg base L2.CX0 1 "_law_taken" (spTaken K sa))
    (c_l_staged : Dn P w K mg base L2.CX0 45 "_law_staged" spStaged) : Dn P w K mg base L2.CX0 46 "_law_plain" (spPlain K sa) := by
  refine D.ok sc_law_plain (fun vs H Q E h => by obtain ⟨r, rfl, _⟩ := h; rfl) (fun f cdv A outer s H vs Q E hr h => ?_)
  obtain ⟨r, rfl, hR, q⟩ := h
  refine ⟨_, (pss_cons (sset 2 sc_law_plain.nd (pe_c0 c_l_program hr (pa_cons (pv 0) (pa_cons pe_bl pa_nil))))
    (pss_cons (ps_asg (pe_c0 c_l_pick hr (pa_cons (pv 0) (pa_cons (pv 2) pa_nil))) (pg_tup rfl (pgs_cons (gnm 3 sc_law_plain.nd) (pgs_cons (gnm 4 sc_law_plain.nd) (pgs_cons (gnm 5 sc_law_plain.nd) pgs_nil)))))
    (pss_cons (sset 6 sc_law_plain.nd (pe_c0 c_l_staged hr (pa_cons (pv 2) (pa_cons (pv 3) (pa_cons (pe_c0 c_l_taken hr (pa_cons (pv 0) (pa_cons pe_int pa_nil))) (pa_cons (pv 1) pa_nil))))))
    (pss_cons (ps_if (pt_cmp (pc_isN (pv 6))) (pss_one (sset 6 sc_law_plain.nd (pe_tup (pa_cons (pe_tup (pa_cons pe_str (pa_cons pe_int (pa_cons (pe_tup (pa_cons pe_str (pa_cons (pe_tup (pa_cons pe_str (pa_cons (pe_tup (pa_cons pe_str (pa_cons pe_int pa_nil))) (pa_cons (pe_tup (pa_cons pe_str (pa_cons pe_int pa_nil))) pa_nil)))) (pa_cons (pe_tup (pa_cons pe_str (pa_cons pe_int pa_nil))) (pa_cons (pe_tup (pa_cons pe_str (pa_cons pe_str (pa_cons (pe_tup (pa_cons (pe_tup (pa_cons pe_str (pa_cons (pe_tup (pa_cons pe_str (pa_cons pe_int pa_nil))) (pa_cons (pe_tup (pa_cons pe_str (pa_cons pe_int pa_nil))) pa_nil)))) pa_nil)) pa_nil)))) pa_nil))))) pa_nil)))) pa_nil)))) pss_nil)
    (pss_one (ps_ret (pv 6))))))), ?_⟩
  refine ⟨_, rfl, r, false, rfl, hR, fun H1 p xs pr e1 hp hF hW => ?_⟩
  have hne : xs ≠ [] := fun z => by
    have := hF.length
    rw [z] at this
    exact hW.ne (List.length_eq_zero_iff.mp this.symm)
  have npr : p ≠ r := fun z => by
    obtain ⟨ys, hy⟩ := e1.row.lst
    rw [z, hy] at hp
    cases hp
  have hlx := hF.length
  have hl4 := hW.len
  refine ⟨_, rfl, _, rfl, r, p, xs, rfl, e1.row, .inr (SqT.of hp), npr, hne, by omega, fun H2 v e2 hv => ?_⟩
  have tx2 := e2.tx e1.row
  obtain ⟨q1, hq1, a, u, rfl, ha, hb⟩ := Paired.mem hF hv
  have e2' := e1.trans e2
  refine ⟨a, _, rfl, SqT.of (tx2 _ _ ha), rfl, _, _, rfl, _, _, rfl, _, _, rfl, rfl, ?_⟩
  refine ⟨_, rfl, _, rfl, _, rfl, r, _, rfl, e2'.row, by decide, by decide, fun H3 k e3 k0 k1 => ?_⟩
  have e3' := e2'.trans e3
  have tx3 := tx2.trans (e3.tx e2'.row)
  refine ⟨_, rfl, p, xs, pr, q1.1, k, rfl, tx3 _ _ hp, hF.mono tx3, hW, ⟨q1.2.1, List.mem_map.mpr ⟨q1, hq1, rfl⟩⟩, k0, by omega, fun H4 x4 => ?_, fun H4 l ys pl x4 hl hG hP => ?_⟩
  · refine ⟨_, rfl, _, rfl, ifT (by decide +kernel) ?_⟩
    have e4 := e3'.ex x4
    refine ⟨z2, ?_⟩
    intro a1 hp_a1
    generalize hG_a1 : upd _ a1 _ = J1
    obtain ⟨y1, g1⟩ := nw hp_a1 hG_a1
    refine ⟨z2, ?_⟩
    intro a2 hp_a2
    generalize hG_a2 : upd _ a2 _ = J2
    obtain ⟨y2, g2⟩ := nw hp_a2 hG_a2
    refine ⟨z3, ?_⟩
    intro a3 hp_a3
    generalize hG_a3 : upd _ a3 _ = J3
    obtain ⟨y3, g3⟩ := nw hp_a3 hG_a3
    refine ⟨z2, ?_⟩
    intro a4 hp_a4
    generalize hG_a4 : upd _ a4 _ = J4
    obtain ⟨y4, g4⟩ := nw hp_a4 hG_a4
    refine ⟨z2, ?_⟩
    intro a5 hp_a5
    generalize hG_a5 : upd _ a5 _ = J5
    obtain ⟨y5, g5⟩ := nw hp_a5 hG_a5
    refine ⟨z2, ?_⟩
    intro a6 hp_a6
    generalize hG_a6 : upd _ a6 _ = J6
    obtain ⟨y6, g6⟩ := nw hp_a6 hG_a6
    refine ⟨z3, ?_⟩
    intro a7 hp_a7
    generalize hG_a7 : upd _ a7 _ = J7
    obtain ⟨y7, g7⟩ := nw hp_a7 hG_a7
    refine ⟨z1, ?_⟩
    intro a8 hp_a8
    generalize hG_a8 : upd _ a8 _ = J8
    obtain ⟨y8, g8⟩ := nw hp_a8 hG_a8
    refine ⟨z3, ?_⟩
    intro a9 hp_a9
    generalize hG_a9 : upd _ a9 _ = J9
    obtain ⟨y9, g9⟩ := nw hp_a9 hG_a9
    refine ⟨z4, ?_⟩
    intro a10 hp_a10
    generalize hG_a10 : upd _ a10 _ = J10
    obtain ⟨y10, g10⟩ := nw hp_a10 hG_a10
    refine ⟨z3, ?_⟩
    intro a11 hp_a11
    generalize hG_a11 : upd _ a11 _ = J11
    obtain ⟨y11, g11⟩ := nw hp_a11 hG_a11
    refine ⟨z1, ?_⟩
    intro a12 hp_a12
    generalize hG_a12 : upd _ a12 _ = J12
    obtain ⟨y12, g12⟩ := nw hp_a12 hG_a12
    have t12 := Ex.refl J12
    have t11 := y12.trans t12
    have t10 := y11.trans t11
    have t9 := y10.trans t10
    have t8 := y9.trans t9
    have t7 := y8.trans t8
    have t6 := y7.trans t7
    have t5 := y6.trans t6
    have t4 := y5.trans t5
    have t3 := y4.trans t4
    have t2 := y3.trans t3
    have t1 := y2.trans t2
    have t0 := y1.trans t1
    refine ⟨_, rfl, q _ a12 _ [("f_0", 1, f0t)] (e4.ex t0) g12 (.cons ⟨a11, .ref a10, rfl, t11 _ _ g11, ?_⟩ .nil) f0_ok⟩
    exact ⟨a10, .ref a3, .ref a4, .ref a9, rfl, t10 _ _ g10, ⟨a3, .ref a1, .ref a2, rfl, t3 _ _ g3, ⟨a1, rfl, t1 _ _ g1⟩, ⟨a2, rfl, t2 _ _ g2⟩⟩, ⟨a4, rfl, t4 _ _ g4⟩,
      ⟨a9, a8, [.ref a7], rfl, t9 _ _ g9, t8 _ _ g8, ⟨.ref a7, [], rfl, ⟨a7, .ref a5, .ref a6, rfl, t7 _ _ g7, ⟨a5, rfl, t5 _ _ g5⟩, ⟨a6, rfl, t6 _ _ g6⟩⟩, rfl⟩⟩⟩
  · exact ⟨_, rfl, _, rfl, ifF (decide_eq_false fun z => by cases z) ⟨_, rfl, q _ _ _ _ (e3'.ex x4) hl hG hP⟩⟩
end

end M10
set_option Elab.async false
set_option linter.all false
set_option maxRecDepth 100000
set_option maxHeartbeats 4000000
namespace M10
open PySem PySem.Spec PyProof.Rows L2 Evl
theorem ix_tupA {X : Cx} {K : PySem.W.Frag} (hK : X.K = K := by rfl) : IxR X (rIxT K) := by
  subst hK
  exact ix_tup
/-- flat values -/
def Flt1 (x : V) : Prop := x = .non ∨ (∃ n, x = .int n) ∨ ∃ s, x = .str s
/-- the same, to a depth -/
def Sm : Nat → Hp → V → V → Prop
  | 0, _, _, _ => False
  | n + 1, H, x, y => (y = x ∧ Flt1 x) ∨ (0 < n ∧ ∃ (a b : Addr) (xs : List V), x = .ref a ∧ y = .ref b ∧ H a = some (.tup xs) ∧ H b = some (.tup xs) ∧ xs.length ≤ 100000 ∧ ∀ v ∈ xs, Flt1 v)
theorem Sm.flat {n : Nat} {H : Hp} {x : V} (h : Flt1 x) (hn : 0 < n) : Sm n H x x := by
  cases n with
  | zero => exact absurd hn (Nat.lt_irrefl _)
  | succ n => exact .inl ⟨rfl, h⟩
def spAl (n : Nat) : Sp := fun vs H Q _ => ∃ x y : V, vs = [x, y] ∧ Sm n H x y ∧ ∀ H', Ex H H' → Q (.bl true) H'
section
variable {P : Program} {w : World} {K : PySem.W.Frag} {mg : Str → Option Value} {base : Heap}
theorem sc_law_alike : FnScope ["_law_found", "_law_due", "_law_k"] ["_law_found", "_law_due"] (defScope s_law_alike) := ⟨rfl, rfl, rfl, by decide +kernel, rfl, by decide +kernel, by decide +kernel⟩
theorem ok_l_alike (D : Dd K mg "_law_alike" s_law_alike ["_law_found", "_law_due"]) (T : Tb K mg) {n : Nat} (c_l_alike : Dn P w K mg base L2.CX0 n "_law_alike" (spAl n)) : Dn P w K mg base L2.CX0 (n + 1) "_law_alike" (spAl (n + 1)) := by
  refine D.ok sc_law_alike (fun vs H Q E h => by obtain ⟨x, y, rfl, _⟩ := h; rfl) (fun f cdv A outer s H vs Q E hr h => ?_)
  obtain ⟨x, y, rfl, hS, q⟩ := h
  refine ⟨_, (pss_cons (ps_if (pt_val (pcb call_isiT T.isinstance (pa_cons (pv 1) (pa_cons (pe_tup (pa_cons (pe_ty (n := "tuple") T.tuple) (pa_cons (pe_ty (n := "list") T.list) pa_nil))) pa_nil)))) (pss_cons (ps_if (PW.pt (pw_or (pt_not (pt_val (pcb call_isiT T.isinstance (pa_cons (pv 0) (pa_cons (pe_tup (pa_cons (pe_ty (n := "tuple") T.tuple) (pa_cons (pe_ty (n := "list") T.list) pa_nil))) pa_nil))))) (pw_or1 (pt_cmpR op_ne (pcb call_isi T.isinstance (pa_cons (pv 0) (pa_cons (pe_ty (n := "list") T.list) pa_nil))) (pcb call_isi T.isinstance (pa_cons (pv 1) (pa_cons (pe_ty (n := "list") T.list) pa_nil))) (nomark _))))) (pss_one (ps_ret pe_bl)) pss_nil)
    (pss_cons (ps_if (pt_cmpR op_ne (pcb call_len_seq T.len (pa_cons (pv 0) pa_nil)) (pcb call_len_seq T.len (pa_cons (pv 1) pa_nil)) (nomark _)) (pss_one (ps_ret pe_bl)) pss_nil)
    (pss_one (ps_ret (pe_cmpR (op_eqN hr.units0) (pe_lc (own := [("_law_k", 2)]) (g := (gName 2)) rfl sc_law_alike.nd (pi_range1 rfl T.range (pa_cons (pcb call_len_seq T.len (pa_cons (pv 1) pa_nil)) pa_nil)) (blkOk_by (N := ["_law_found", "_law_due", "_law_k"]) (sc := defScope s_law_alike) (by decide +kernel)) (fun _ _ _ _ _ => (gnm 2 sc_law_alike.nd)) (fun _ _ _ _ _ => pts_one (pt_not (pt_val (pe_c0 c_l_alike hr (pa_cons (pe_ix (ix_tupA (K := K)) (pv 0) (pv 2) (fun _ _ => rfl)) (pa_cons (pe_ix (ix_tupA (K := K)) (pv 1) (pv 2) (fun _ _ => rfl)) pa_nil)))))) (fun _ _ _ _ _ => (pv 2))) (pe_lst pa_nil) (nomark _)))))) pss_nil)
    (pss_cons (ps_if (PW.pt (pw_or (pt_cmp (pc_isN (pv 1))) (pw_or1 (pt_val (pcb call_isi T.isinstance (pa_cons (pv 1) (pa_cons (pe_ty (n := "str") T.str) pa_nil))))))) (pss_one (ps_ret (pe_and (pe_cmpR op_eq (pv 0) (pv 1) (nomark _)) (pe_one (pe_cmpR op_eq (pcb call_isi T.isinstance (pa_cons (pv 0) (pa_cons (pe_ty (n := "str") T.str) pa_nil))) (pcb call_isi T.isinstance (pa_cons (pv 1) (pa_cons (pe_ty (n := "str") T.str) pa_nil))) (nomark _)))))) pss_nil)
    (pss_one (ps_ret (pe_and (pcb call_isi T.isinstance (pa_cons (pv 0) (pa_cons (pe_ty (n := "int") T.int) pa_nil))) (pe_and (pe_cmpR op_eq (pcb call_isi T.isinstance (pa_cons (pv 0) (pa_cons (pe_ty (n := "bool") T.bool) pa_nil))) (pcb call_isi T.isinstance (pa_cons (pv 1) (pa_cons (pe_ty (n := "bool") T.bool) pa_nil))) (nomark _)) (pe_one (pe_cmpR op_eq (pv 0) (pv 1) (nomark _))))))))), ?_⟩
  rcases hS with ⟨rfl, hx⟩ | ⟨hn, a, b, xs, rfl, rfl, ha, hb, hlen, hfl⟩
  · refine ⟨_, rfl, z2, ?_⟩
    intro p1 hp_p1
    generalize hG_p1 : upd _ p1 _ = H1
    obtain ⟨x1, g1⟩ := nw hp_p1 hG_p1
    rcases hx with rfl | ⟨i, rfl⟩ | ⟨t, rfl⟩
    · refine ⟨_, p1, _, .type "NoneType", [.type "tuple", .type "list"], false, rfl, g1, .cons (.ty _) (.cons (.ty _) .nil), .base .non, rfl, _, rfl, ifF rfl ?_⟩
      refine ⟨_, rfl, _, rfl, ifT (decide_eq_true rfl) (ifT rfl ?_)⟩
      refine ⟨_, rfl, _, rfl, rfl, _, rfl, ifT rfl ?_⟩
      refine ⟨_, rfl, _, _, _, _, false, rfl, .ty "str", .base .non, rfl, ?_⟩
      refine ⟨_, rfl, _, _, _, _, false, rfl, .ty "str", .base .non, rfl, rfl, ?_⟩
      exact q _ x1
    · refine ⟨_, p1, _, .type "int", [.type "tuple", .type "list"], false, rfl, g1, .cons (.ty _) (.cons (.ty _) .nil), .base (.int i), rfl, _, rfl, ifF rfl ?_⟩
      refine ⟨_, rfl, _, rfl, ifF (decide_eq_false (fun z => nomatch z)) ?_⟩
      refine ⟨_, rfl, _, _, _, _, false, rfl, .ty "str", .base (.int i), rfl, _, rfl, ifF rfl ?_⟩
      refine ⟨_, rfl, _, _, _, _, true, rfl, .ty "int", .base (.int i), rfl, _, rfl, ifT rfl ?_⟩
      refine ⟨_, rfl, _, _, _, _, false, rfl, .ty "bool", .base (.int i), rfl, ?_⟩
      refine ⟨_, rfl, _, _, _, _, false, rfl, .ty "bool", .base (.int i), rfl, rfl, _, rfl, ifT rfl ?_⟩
      refine ⟨_, rfl, _, rfl, rfl, ?_⟩
      rw [decide_eq_true rfl]
      exact q _ x1
    · refine ⟨_, p1, _, .type "str", [.type "tuple", .type "list"], false, rfl, g1, .cons (.ty _) (.cons (.ty _) .nil), .base (.str t), rfl, _, rfl, ifF rfl ?_⟩
      refine ⟨_, rfl, _, rfl, ifF (decide_eq_false (fun z => nomatch z)) ?_⟩
      refine ⟨_, rfl, _, _, _, _, true, rfl, .ty "str", .base (.str t), rfl, _, rfl, ifT rfl ?_⟩
      refine ⟨_, rfl, _, rfl, rfl, _, rfl, ifT (decide_eq_true rfl) ?_⟩
      refine ⟨_, rfl, _, _, _, _, true, rfl, .ty "str", .base (.str t), rfl, ?_⟩
      refine ⟨_, rfl, _, _, _, _, true, rfl, .ty "str", .base (.str t), rfl, rfl, ?_⟩
      exact q _ x1
  · refine ⟨_, rfl, z2, ?_⟩
    intro p1 hp_p1
    generalize hG_p1 : upd _ p1 _ = H1
    obtain ⟨x1, g1⟩ := nw hp_p1 hG_p1
    have ha1 := x1 _ _ ha
    have hb1 := x1 _ _ hb
    refine ⟨_, p1, _, .type "tuple", [.type "tuple", .type "list"], true, rfl, g1, .cons (.ty _) (.cons (.ty _) .nil), .base (.tup hb1), rfl, _, rfl, ifT rfl ?_⟩
    refine ⟨_, rfl, z2, ?_⟩
    intro p2 hp_p2
    generalize hG_p2 : upd _ p2 _ = H2
    obtain ⟨y2, g2⟩ := nw hp_p2 hG_p2
    have x2 := x1.trans y2
    have ha2 := x2 _ _ ha
    have hb2 := x2 _ _ hb
    refine ⟨_, p2, _, .type "tuple", [.type "tuple", .type "list"], true, rfl, g2, .cons (.ty _) (.cons (.ty _) .nil), .base (.tup ha2), rfl, _, rfl, ifF rfl ?_⟩
    refine ⟨_, rfl, _, _, _, _, false, rfl, .ty "list", .base (.tup ha2), rfl, ?_⟩
    refine ⟨_, rfl, _, _, _, _, false, rfl, .ty "list", .base (.tup hb2), rfl, rfl, _, rfl, ifF rfl ?_⟩
    refine ⟨_, rfl, a, _, rfl, .inr (SqT.of ha2), _, rfl, b, _, rfl, .inr (SqT.of hb2), rfl, _, rfl, ifF (by rw [decide_eq_true rfl] <;> rfl) ?_⟩
    refine ⟨_, rfl, b, _, rfl, .inr (SqT.of hb2), _, rfl, by omega, by omega, fun DD hD => ?_⟩
    refine lc_range (lo := 0) (n := ((xs.length : Nat) : Int).toNat) (fun i H' => H' DD = some (.lst []) ∧ Kp DD H2 H') ⟨upd_same, Kp.put⟩ ?_ ?_
    · rintro i H3 hi ⟨hacc, kp⟩
      have ha3 := kp.ex hD _ _ ha2
      have hb3 := kp.ex hD _ _ hb2
      have hi2 : i < xs.length := by omega
      have hv := List.getElem?_eq_getElem hi2
      have hvi : atI xs (0 + (i : Int)) = some xs[i] := by
        rw [Int.zero_add]
        exact atI_nat hv
      refine ⟨rfl, _, rfl, _, rfl, a, _, _, xs[i], rfl, rfl, SqT.of ha3, hvi, ?_⟩
      refine ⟨_, rfl, _, rfl, b, _, _, xs[i], rfl, rfl, SqT.of hb3, hvi, ?_⟩
      refine ⟨_, _, rfl, Sm.flat (hfl _ (List.getElem_mem _)) hn, fun H4 e4 => ⟨_, rfl, ifF rfl ⟨e4 _ _ hacc, kp.trans (Kp.of e4)⟩⟩⟩
    · rintro H3 ⟨hacc, kp⟩
      have xk := x2.trans (kp.ex hD)
      refine ⟨z0, ?_⟩
      intro p4 hp_p4
      generalize hG_p4 : upd _ p4 _ = H4
      obtain ⟨y4, g4⟩ := nw hp_p4 hG_p4
      refine ⟨DD, p4, _, rfl, rfl, SqL.of (y4 _ _ hacc), SqL.of g4, ?_⟩
      exact q _ (xk.trans y4)
theorem l_alike (D : Dd K mg "_law_alike" s_law_alike ["_law_found", "_law_due"]) (T : Tb K mg) : ∀ n : Nat, Dn P w K mg base L2.CX0 n "_law_alike" (spAl n)
  | 0 => D.none fun vs H Q E h => by
    obtain ⟨x, y, _, hS, _⟩ := h
    exact hS
  | n + 1 => ok_l_alike D T (l_alike D T n)
end

end M10
set_option Elab.async false
set_option linter.all false
set_option maxRecDepth 100000
set_option maxHeartbeats 4000000
namespace M10
open PySem PySem.Spec PyProof.Rows L2 Evl
/-! ### raw runs: what an expression gives in any state in which S holds, and only new objects are made -/
structure Rw where
  env : Env
  D : Nat
  U : Nat
  S : Heap → Prop
structure Rw.Ok (K : PySem.W.Frag) (mg : Str → Option Value) (base : Heap) (R : Rw) : Prop where
  mod : Mod K mg base
  kind : R.env.scope.kind = .function
  glob : R.env.globals = mainGlobals
  blt : R.env.builtins = builtinsNs
  mono : ∀ h h' : Heap, R.S h → (∀ b o, h.get? b = some o → h'.get? b = some o) → R.S h'
  bk : ∀ h : Heap, R.S h → ∀ b o, base.get? b = some o → h.get? b = some o
def RP (P : Program) (w : World) (R : Rw) (e : Expr) (v : V) : Prop := ∀ (A' : Around) (E' : Value → Shared → Prop) (s : Shared), A'.handled = none → A'.depth ≤ R.D → A'.units ≤ R.U → R.S s.heap →
  wpAny (model P w) A' (eval e R.env) (fun y s' => RelV v y ∧ Keeps s s') E' s
/-- arguments -/
def RA (P : Program) (w : World) (R : Rw) (es : List Expr) (vs : List V) : Prop := ∀ (pos : Pos) (A' : Around) (E' : Value → Shared → Prop) (s : Shared), A'.handled = none → A'.depth ≤ R.D → A'.units ≤ R.U → R.S s.heap →
  wpAny (model P w) A' (spliced (backTo pos (starEach es R.env))) (fun us s' => Vals vs us ∧ Keeps s s') E' s
theorem keepsR (s : Shared) : Keeps s s := GxR.keeps_refl s
theorem keepsK (s : Shared) (k : Nat) : Keeps s { s with toks := k } := GxR.keeps_tok s k
theorem keepsT {s s1 s2 : Shared} (a : Keeps s s1) (b : Keeps s1 s2) : Keeps s s2 := by
  obtain ⟨h1, k1, rfl, e1⟩ := a
  obtain ⟨h2, k2, rfl, e2⟩ := b
  exact ⟨h2, k2, rfl, fun b o e => e2 b o (e1 b o e)⟩
theorem keepsS {K : PySem.W.Frag} {mg : Str → Option Value} {base : Heap} {R : Rw} (ok : R.Ok K mg base) {s s1 : Shared} (a : Keeps s s1) (h : R.S s.heap) : R.S s1.heap := by
  obtain ⟨h1, k1, rfl, e1⟩ := a
  exact ok.mono _ _ h e1
section
variable {P : Program} {w : World} {K : PySem.W.Frag} {mg : Str → Option Value} {base : Heap} {R : Rw} (ok : R.Ok K mg base)
include ok
theorem rp_loc {x : Str} {pos : Pos} {v : V} (hl : R.env.scope.names.lookup x = some .local) (h : ∀ g : Heap, R.S g → ∃ m u, g.Ns R.env.locals m ∧ m x = some u ∧ RelV v u) (hd : (x == ("__debug__" : Str)) = false := by decide) : RP P w R (.Name x pos) v := by
  intro A' E' s _ _ _ hS
  obtain ⟨m, u, h1, h2, h3⟩ := h _ hS
  exact wpAny_Name (wpAny_loadName_local ok.kind hl h1 h2 ⟨h3, keepsR s⟩) hd
theorem rp_free {x : Str} {pos : Pos} {v : V} {c : Addr} (hl : R.env.scope.names.lookup x = some .free) (hc : R.env.cells.lookup x = some c) (h : ∀ g : Heap, R.S g → ∃ u, g.IsCell c (some u) ∧ RelV v u) (hd : (x == ("__debug__" : Str)) = false := by decide)
    (hn : (x == ("__classdict__" : Str)) = false := by decide) : RP P w R (.Name x pos) v := by
  intro A' E' s _ _ _ hS
  obtain ⟨u, h2, h3⟩ := h _ hS
  exact wpAny_Name (wpAny_loadName_free ok.kind hl hc h2 ⟨h3, keepsR s⟩ hn) hd
theorem rp_glob {x : Str} {pos : Pos} {v : V} (hg : R.env.kindOf x = some .globalImplicit) (h : ∃ u, mg x = some u ∧ RelV v u) (hd : (x == ("__debug__" : Str)) = false := by decide) : RP P w R (.Name x pos) v := by
  intro A' E' s _ _ _ hS
  obtain ⟨u, h2, h3⟩ := h
  exact Calls.Name_function_global ok.kind hg (Calls.loadGlobal_global (by rw [ok.glob]; exact ok.mod.glob.keeps (ok.bk _ hS)) h2 ⟨h3, keepsR s⟩) hd
theorem rd_blt {x : Str} {pos : Pos} {u : Value} {A' : Around} {E' : Value → Shared → Prop} {s : Shared} {Q : Value → Shared → Prop} (hS : R.S s.heap) (hg : R.env.kindOf x = some .globalImplicit) (hm : mg x = none) (hv : bootBuiltins x = some u) (h : Q u s)
    (hn : x ≠ "__name__" := by decide) (hd : (x == ("__debug__" : Str)) = false := by decide) : wpAny (model P w) A' (eval (.Name x pos) R.env) Q E' s := by
  obtain ⟨mb, h1, h2⟩ := ok.mod.blt
  exact Calls.Name_function_global ok.kind hg (Calls.loadGlobal_builtin (by rw [ok.glob]; exact ok.mod.glob.keeps (ok.bk _ hS)) hm (by rw [ok.blt]; exact h1.keeps (ok.bk _ hS)) ((h2 x hn).trans hv) h) hd
theorem rp_ty {x : Str} {pos : Pos} {n : String} (hg : R.env.kindOf x = some .globalImplicit) (hm : mg x = none) (hv : bootBuiltins x = some (.type n)) (hn : x ≠ "__name__" := by decide) (hd : (x == ("__debug__" : Str)) = false := by decide) : RP P w R (.Name x pos) (.ty n) := by
  intro A' E' s _ _ _ hS
  exact rd_blt ok hS hg hm hv ⟨rfl, keepsR s⟩ hn hd
omit ok in
theorem rp_int {i : Int} {j : Nat} {pos : Pos} : RP P w R (.Constant (.int i) j pos) (.int i) := fun A' E' s _ _ _ _ => wpAny_Constant_int ⟨⟨_, rfl⟩, keepsK s _⟩
omit ok in
theorem ra_nil : RA P w R [] [] := fun _ _ _ s _ _ _ _ => Calls.spliced_nil ⟨.nil, keepsR s⟩
theorem ra_cons {e : Expr} {es : List Expr} {v : V} {vs : List V} (he : RP P w R e v) (hr : RA P w R es vs) (hs : starEach (e :: es) R.env = (false, eval e R.env) :: starEach es R.env := by rfl) : RA P w R (e :: es) (v :: vs) := by
  intro pos A' E' s h1 h2 h3 hS
  rw [hs]
  show wpAny _ _ (spliced ((false, eval e R.env) :: backTo pos (starEach es R.env))) _ _ s
  refine Calls.spliced_cons (thn (he A' E' s h1 h2 h3 hS) fun u s1 ⟨r1, k1⟩ => ?_)
  exact thn (hr pos A' E' s1 h1 h2 h3 (keepsS ok k1 hS)) fun us s2 ⟨r2, k2⟩ => ⟨.cons r1 r2, keepsT k1 k2⟩
theorem rp_two {a b : Expr} {x y z : V} {f : Value → Value → Sem Value} {mk : Expr} (ha : RP P w R a x) (hb : RP P w R b y)
    (hf : ∀ (A' : Around) (E' : Value → Shared → Prop) (s : Shared) (u v : Value), R.S s.heap → RelV x u → RelV y v → wpAny (model P w) A' (f u v) (fun r s' => RelV z r ∧ Keeps s s') E' s)
    (hm : ∀ (A' : Around) (E' : Value → Shared → Prop) (s : Shared) (Q : Value → Shared → Prop), wpAny (model P w) A' (eval a R.env) (fun u s1 => wpAny (model P w) A' (eval b R.env) (fun v s2 => wpAny (model P w) A' (f u v) Q E' s2) E' s1) E' s → wpAny (model P w) A' (eval mk R.env) Q E' s) :
    RP P w R mk z := by
  intro A' E' s h1 h2 h3 hS
  refine hm A' E' s _ (thn (ha A' E' s h1 h2 h3 hS) fun u s1 ⟨r1, k1⟩ => ?_)
  have hS1 := keepsS ok k1 hS
  refine thn (hb A' E' s1 h1 h2 h3 hS1) fun v s2 ⟨r2, k2⟩ => ?_
  exact thn (hf A' E' s2 u v (keepsS ok k2 hS1) r1 r2) fun r s3 ⟨r3, k3⟩ => ⟨r3, keepsT k1 (keepsT k2 k3)⟩
theorem rp_add {a b : Expr} {i j : Int} {pos : Pos} (ha : RP P w R a (.int i)) (hb : RP P w R b (.int j)) : RP P w R (.BinOp a .Add b pos) (.int (i + j)) :=
  rp_two ok ha hb (fun A' E' s u v _ r1 r2 => by
    obtain ⟨t, rfl⟩ := r1
    obtain ⟨t', rfl⟩ := r2
    exact add_int ⟨⟨_, rfl⟩, keepsK s _⟩) fun A' E' s Q h => wpAny_BinOp h
theorem rp_sub {a b : Expr} {i j : Int} {pos : Pos} (ha : RP P w R a (.int i)) (hb : RP P w R b (.int j)) : RP P w R (.BinOp a .Sub b pos) (.int (i - j)) :=
  rp_two ok ha hb (fun A' E' s u v _ r1 r2 => by
    obtain ⟨t, rfl⟩ := r1
    obtain ⟨t', rfl⟩ := r2
    exact sub_int ⟨⟨_, rfl⟩, keepsK s _⟩) fun A' E' s Q h => wpAny_BinOp h
theorem rp_ge {a b : Expr} {i j : Int} {pos : Pos} {c : Bool} (ha : RP P w R a (.int i)) (hb : RP P w R b (.int j)) (hc : decide (i ≥ j) = c) (hm : behindInMarks .GtE b = false) : RP P w R (.Compare a [.GtE] [b] pos) (.bl c) :=
  rp_two ok ha hb (fun A' E' s u v _ r1 r2 => by
    obtain ⟨t, rfl⟩ := r1
    obtain ⟨t', rfl⟩ := r2
    exact ge_int ⟨by rw [hc] <;> rfl, keepsR s⟩) fun A' E' s Q h => wpAny_Compare1 h hm
theorem rp_ne {a b : Expr} {i j : Int} {pos : Pos} {c : Bool} (ha : RP P w R a (.int i)) (hb : RP P w R b (.int j)) (hc : (i != j) = c) (hm : behindInMarks .NotEq b = false) : RP P w R (.Compare a [.NotEq] [b] pos) (.bl c) :=
  rp_two ok ha hb (fun A' E' s u v _ r1 r2 => by
    obtain ⟨t, rfl⟩ := r1
    obtain ⟨t', rfl⟩ := r2
    exact ne_int ⟨by rw [hc] <;> rfl, keepsR s⟩) fun A' E' s Q h => wpAny_Compare1 h hm
/-- a ≤ b ≤ c, as it is -/
theorem rp_lele {a b c : Expr} {i j k : Int} {pos : Pos} (ha : RP P w R a (.int i)) (hb : RP P w R b (.int j)) (hc : RP P w R c (.int k)) (h1 : i ≤ j) (h2 : j ≤ k) (hm : lastMarks [.LtE, .LtE] [b, c] = false) : RP P w R (.Compare a [.LtE, .LtE] [b, c] pos) (.bl true) := by
  intro A' E' s p1 p2 p3 hS
  refine PyProof.Rows.Compare_chain (thn (ha A' E' s p1 p2 p3 hS) fun u s1 ⟨r1, k1⟩ => ?_) hm
  have hS1 := keepsS ok k1 hS
  refine PyProof.Rows.chain_link (thn (hb A' E' s1 p1 p2 p3 hS1) fun v s2 ⟨r2, k2⟩ => ?_)
  obtain ⟨t, rfl⟩ := r1
  obtain ⟨t', rfl⟩ := _root_.id r2
  have hS2 := keepsS ok k2 hS1
  refine le_int ?_
  rw [decide_eq_true h1]
  refine wpAny_truthy_bool ?_
  refine PyProof.Rows.chain_last (thn (hc A' E' s2 p1 p2 p3 hS2) fun v s3 ⟨r3, k3⟩ => ?_)
  obtain ⟨t3, rfl⟩ := r3
  refine le_int ⟨?_, keepsT k1 (keepsT k2 k3)⟩
  rw [decide_eq_true h2] <;> rfl
omit ok in
theorem rp_one {op : BoolOp} {e : Expr} {pos : Pos} {v : V} (h : RP P w R e v) : RP P w R (.BoolOp op [e] pos) v := fun A' E' s p1 p2 p3 hS => PyProof.Rows.BoolOp_one (h A' E' s p1 p2 p3 hS)
theorem rp_and {e e2 : Expr} {es : List Expr} {pos : Pos} {v : V} (h : RP P w R e (.bl true)) (h2 : RP P w R (.BoolOp .And (e2 :: es) pos) v) : RP P w R (.BoolOp .And (e :: e2 :: es) pos) v := by
  intro A' E' s p1 p2 p3 hS
  refine PyProof.Rows.BoolOp_and (thn (h A' E' s p1 p2 p3 hS) fun u s1 ⟨r1, k1⟩ => ?_)
  cases (show u = Value.bool true from r1)
  refine wpAny_truthy_bool ?_
  exact thn (h2 A' E' s1 p1 p2 p3 (keepsS ok k1 hS)) fun u s2 ⟨r2, k2⟩ => ⟨r2, keepsT k1 k2⟩
omit ok in
theorem rp_not {e : Expr} {pos : Pos} {b : Bool} (h : RP P w R e (.bl b)) : RP P w R (.UnaryOp .Not e pos) (.bl (!b)) := by
  intro A' E' s p1 p2 p3 hS
  refine PyProof.Rows.UnaryOp_ (thn (h A' E' s p1 p2 p3 hS) fun u s1 ⟨r1, k1⟩ => ?_)
  cases (show u = Value.bool b from r1)
  exact PyProof.Rows.not_of (wpAny_truthy_bool ⟨rfl, k1⟩)
/-- a built-in, called -/
theorem rp_bi {x : Str} {id : String} {e : Expr} {es : List Expr} {p pos : Pos} {vs : List V} {z : V} (hg : R.env.kindOf x = some .globalImplicit) (hm : mg x = none) (hv : bootBuiltins x = some (.builtin id)) (ha : RA P w R (e :: es) vs)
    (hf : ∀ (A' : Around) (E' : Value → Shared → Prop) (s : Shared) (us : List Value), R.S s.heap → Vals vs us → wpAny (model P w) A' (call (.builtin id) us) (fun r s' => RelV z r ∧ Keeps s s') E' s)
    (hn : x ≠ "__name__" := by decide) (hd : (x == ("__debug__" : Str)) = false := by decide) (he : starEach (e :: es) R.env = (false, eval e R.env) :: starEach es R.env := by rfl) (hpl : (backTo pos (starEach es R.env)).any (·.1) = false := by rfl) :
    RP P w R (.Call (.Name x p) (e :: es) [] pos) z := by
  intro A' E' s p1 p2 p3 hS
  refine wpAny_Call_Name_kw (rd_blt ok hS hg hm hv ?_ hn hd)
  refine PyProof.Rows.callWith_builtin1 (thn (ha pos A' E' s p1 p2 p3 hS) fun us s1 ⟨r1, k1⟩ => ?_) he hpl
  exact thn (hf A' E' s1 us (keepsS ok k1 hS) r1) fun r s2 ⟨r2, k2⟩ => ⟨r2, keepsT k1 k2⟩
/-- the tuple at a, its items -/
def TupH (h : Heap) (a : Addr) (xs : List V) : Prop := xs.length ≤ sizeLine ∧ ∃ its : List Value, Vals xs its ∧ IsTup h a its.toArray
theorem rp_len {e : Expr} {p pos : Pos} {a : Addr} {xs : List V} (hg : R.env.kindOf "len" = some .globalImplicit) (hm : mg "len" = none) (he : RP P w R e (.ref a)) (ht : ∀ g : Heap, R.S g → TupH g a xs) (hs : starEach [e] R.env = (false, eval e R.env) :: starEach [] R.env := by rfl) :
    RP P w R (.Call (.Name "len" p) [e] [] pos) (.int xs.length) :=
  rp_bi (id := "len") ok hg hm (by decide +kernel) (ra_cons ok he ra_nil hs) (fun A' E' s us hS r => by
    obtain ⟨u, rfl, ru⟩ := vals1 r
    obtain rfl : u = Value.ref a := ru
    obtain ⟨hz, its, rv, pl⟩ := ht _ hS
    have hn := line63
    have hl := rv.length
    exact len_tuple pl (by simp only [List.size_toArray] <;> omega) ⟨⟨s.toks + 1, by rw [List.size_toArray, hl]⟩, keepsK s _⟩) (by decide) (by decide) hs
theorem rp_isi {e c : Expr} {p pos : Pos} {v cv : V} {t u : Value} {b : Bool} (hg : R.env.kindOf "isinstance" = some .globalImplicit) (hm : mg "isinstance" = none) (he : RP P w R e v) (hc : RP P w R c cv) (hcv : ClsV cv u) (hk : PySem.W.kitOne K t u = some b)
    (hz : ∀ (g : Heap) (x : Value), R.S g → RelV v x → ∃ Ph : Heap → Prop, PySem.W.KitX K x t Ph ∧ Ph g ∧ x ≠ .builtin "__main__.__loader__#opaque")
    (hs : starEach [e, c] R.env = (false, eval e R.env) :: starEach [c] R.env := by rfl) (hs2 : starEach [c] R.env = (false, eval c R.env) :: starEach [] R.env := by rfl) :
    RP P w R (.Call (.Name "isinstance" p) [e, c] [] pos) (.bl b) :=
  rp_bi (id := "isinstance") ok hg hm (by decide +kernel) (ra_cons ok he (ra_cons ok hc ra_nil hs2) hs) (fun A' E' s us hS r => by
    obtain ⟨u1, u2, rfl, r1, r2⟩ := vals2 r
    have e2 := hcv.eq r2
    subst e2
    obtain ⟨Ph, Z, pz, hx⟩ := hz _ _ hS r1
    exact PySem.W.kia_one Z (ok.mod.kin.keeps (ok.bk _ hS)) pz hk hx fun tk => ⟨rfl, keepsK s _⟩) (by decide) (by decide) hs (by rw [hs2] <;> rfl)
theorem rp_ix {a b : Expr} {pos : Pos} {p : Addr} {xs : List V} {i : Int} {v : V} (ha : RP P w R a (.ref p)) (hb : RP P w R b (.int i)) (ht : ∀ g : Heap, R.S g → TupH g p xs) (he : atI xs i = some v) (hs : PlainIx b) : RP P w R (.Subscript a b pos) v := by
  intro A' E' s p1 p2 p3 hS
  refine PyProof.Rows.Subscript_ (thn (ha A' E' s p1 p2 p3 hS) fun u s1 ⟨r1, k1⟩ => thn (hb A' E' s1 p1 p2 p3 (keepsS ok k1 hS)) fun y s2 ⟨r2, k2⟩ => ?_)
  have hS2 := keepsS ok k2 (keepsS ok k1 hS)
  obtain rfl : u = Value.ref p := r1
  obtain ⟨t, rfl⟩ := r2
  obtain ⟨hz, its, r, pl⟩ := ht _ hS2
  obtain ⟨j, h1, h2, h3, h4, h5⟩ := atI_get he
  obtain ⟨w', ew, rw'⟩ := r.get h2
  have hl := r.length
  have hn := line63
  have fin : RelV v w' ∧ Keeps s s2 := ⟨rw', keepsT k1 k2⟩
  exact subscriptTail_builtinR (x := w') pl.typeIs slot_tuple_getitem.lookup (getItem_tuple (j := j) (Q := fun r s' => r = w' ∧ RelV v r ∧ Keeps s s') pl (by omega) (by omega) (by rw [List.size_toArray, ← hl]; exact h1) (by simpa using ew) ⟨rfl, fin⟩) (hs _ _)
/-- a body -/
def RB (P : Program) (w : World) (R : Rw) (b : List Stmt) (v : V) : Prop := ∀ (A' : Around) (E' : Value → Shared → Prop) (s : Shared), A'.handled = none → A'.depth ≤ R.D → A'.units ≤ R.U → R.S s.heap →
  wpAny (model P w) A' (execs b R.env) (fun f s' => ∃ y, f = .ret y ∧ RelV v y ∧ Keeps s s') E' s
/-- a test -/
def RT (P : Program) (w : World) (R : Rw) (e : Expr) (b : Bool) : Prop := ∀ (A' : Around) (E' : Value → Shared → Prop) (s : Shared), A'.handled = none → A'.depth ≤ R.D → A'.units ≤ R.U → R.S s.heap →
  wpAny (model P w) A' (isTrue e R.env (eval e R.env)) (fun c s' => c = b ∧ Keeps s s') E' s
def RTs (P : Program) (w : World) (R : Rw) (e : Expr) (b : Bool) : Prop := ∀ (wh : Sem Value) (A' : Around) (E' : Value → Shared → Prop) (s : Shared), A'.handled = none → A'.depth ≤ R.D → A'.units ≤ R.U → R.S s.heap →
  wpAny (model P w) A' (isTrue e R.env wh) (fun c s' => c = b ∧ Keeps s s') E' s
omit ok in
theorem RTs.rt {e : Expr} {b : Bool} (h : RTs P w R e b) : RT P w R e b := fun A' E' s p1 p2 p3 hS => h _ A' E' s p1 p2 p3 hS
omit ok in
theorem rt_val {e : Expr} {b : Bool} (h : RP P w R e (.bl b)) (he : ∀ wh : Sem Value, isTrue e R.env wh = (do let v ← wh; standAt e.pos; holding [v] (truthy v)) := by intro _; rfl) : RT P w R e b := by
  intro A' E' s p1 p2 p3 hS
  refine PyProof.Rows.isTrue_plain (thn (h A' E' s p1 p2 p3 hS) fun u s1 ⟨r1, k1⟩ => ?_) (he _)
  cases (show u = Value.bool b from r1)
  exact wpAny_truthy_bool ⟨rfl, k1⟩
omit ok in
theorem rt_not {e : Expr} {b : Bool} {pos : Pos} (h : RT P w R e b) : RTs P w R (.UnaryOp .Not e pos) (!b) := fun wh A' E' s p1 p2 p3 hS =>
  PyProof.Rows.isTrue_not (thn (h A' E' s p1 p2 p3 hS) fun c s1 ⟨r1, k1⟩ => ⟨by rw [r1], k1⟩)
theorem rt_ne {a b : Expr} {i j : Int} {pos : Pos} {c : Bool} (ha : RP P w R a (.int i)) (hb : RP P w R b (.int j)) (hc : (i != j) = c) (hm : behindInMarks .NotEq b = false) : RTs P w R (.Compare a [.NotEq] [b] pos) c := by
  intro wh A' E' s p1 p2 p3 hS
  refine wpAny_isTrue_Compare1 (thn (ha A' E' s p1 p2 p3 hS) fun u s1 ⟨r1, k1⟩ => ?_) hm
  have hS1 := keepsS ok k1 hS
  refine thn (hb A' E' s1 p1 p2 p3 hS1) fun v s2 ⟨r2, k2⟩ => ?_
  obtain ⟨t, rfl⟩ := r1
  obtain ⟨t', rfl⟩ := r2
  refine ne_int ?_
  rw [hc]
  exact wpAny_truthy_bool ⟨rfl, keepsT k1 k2⟩
omit ok in
theorem rt_or_nil {pos : Pos} : RTs P w R (.BoolOp .Or [] pos) false := fun wh A' E' s _ _ _ _ => PyProof.Rows.isTrue_or_nil ⟨rfl, keepsR s⟩
theorem rt_or {e : Expr} {es : List Expr} {b : Bool} {pos : Pos} (h : RT P w R e false) (h2 : RTs P w R (.BoolOp .Or es pos) b) : RTs P w R (.BoolOp .Or (e :: es) pos) b := by
  intro wh A' E' s p1 p2 p3 hS
  refine PyProof.Rows.isTrue_or (thn (h A' E' s p1 p2 p3 hS) fun c s1 ⟨r1, k1⟩ => ?_)
  subst r1
  exact thn (h2 wh A' E' s1 p1 p2 p3 (keepsS ok k1 hS)) fun c s2 ⟨r2, k2⟩ => ⟨r2, keepsT k1 k2⟩
omit ok in
theorem rb_ret {e : Expr} {pos : Pos} {rest : List Stmt} {v : V} (h : RP P w R e v) : RB P w R (.Return (some e) pos :: rest) v := by
  intro A' E' s p1 p2 p3 hS
  refine wpAny_execs_cons (wpAny_Return_some (thn (h A' E' s p1 p2 p3 hS) fun u s1 ⟨r1, k1⟩ => ?_))
  exact ⟨u, rfl, r1, k1⟩
theorem rb_skip {t : Expr} {body : List Stmt} {pos : Pos} {rest : List Stmt} {v : V} (ht : RT P w R t false) (h : RB P w R rest v) : RB P w R (.If t body [] pos :: rest) v := by
  intro A' E' s p1 p2 p3 hS
  refine wpAny_execs_cons (wpAny_If (thn (ht A' E' s p1 p2 p3 hS) fun c s1 ⟨r1, k1⟩ => ?_))
  subst r1
  refine wpAny_execs_nil ?_
  exact thn (h A' E' s1 p1 p2 p3 (keepsS ok k1 hS)) fun f s2 ⟨y, e1, r2, k2⟩ => ⟨y, e1, r2, keepsT k1 k2⟩
/-- a def of the text, called -/
theorem rp_fn {x : Str} {st : Stmt} {ps : List Str} {e : Expr} {es : List Expr} {p pos : Pos} {vs : List V} {z : V} (D : Dd K mg x st ps) (hg : R.env.kindOf x = some .globalImplicit) (ha : RA P w R (e :: es) vs) (hlen : vs.length = ps.length)
    (hroom : R.D < recursionLimit) (hk : (defScope st).kind = .function) (hco : (defScope st).isCoroutine = false) (hgen : (defScope st).isGenerator = false) (hcell : ∀ y ∈ (defScope st).names, y.2 ≠ .cell)
    (hloc : ∀ q ∈ ps, (defScope st).names.lookup q = some .local)
    (hbody : ∀ (R' : Rw) (us : List Value), R'.Ok K mg base → R'.D = R.D + 1 → R'.U = R.U + 3 → R'.env.scope = defScope st → (∀ g, R'.S g → R.S g) → (∀ g, R'.S g → g.Ns R'.env.locals fun y => (ps.zip us).reverse.lookup y) → Vals vs us → RB P w R' (defBody st) z)
    (hd : (x == ("__debug__" : Str)) = false := by decide) (he : starEach (e :: es) R.env = (false, eval e R.env) :: starEach es R.env := by rfl) (hpl : (backTo pos (starEach es R.env)).any (·.1) = false := by rfl) :
    RP P w R (.Call (.Name x p) (e :: es) [] pos) z := by
  intro A' E' s p1 p2 p3 hS
  obtain ⟨f, fd, F, hgl, b⟩ := D
  have hkp := F.kp
  obtain ⟨oc, od, kV, doc, pm, an, cdv, ct, osl, rfl, lk, hcd⟩ := F.ex
  refine wpAny_Call_Name_kw (Calls.Name_function_global ok.kind hg (Calls.loadGlobal_global (by rw [ok.glob]; exact ok.mod.glob.keeps (ok.bk _ hS)) hgl ?_) hd)
  refine PySem.W.callWith_K (h₀ := base) ok.mod.kin hkp (thn (ha pos A' E' s p1 p2 p3 hS) fun us s1 ⟨r, k1⟩ => ?_) he hpl
  have hS1 := keepsS ok k1 hS
  have hbk := ok.bk _ hS1
  have KX : K.In s1.heap := ok.mod.kin.keeps hbk
  have hul : us.length = ps.length := by rw [← r.length]; exact hlen
  refine ⟨KX, ?_⟩
  have bb := b s1 us KX (by rw [List.append_nil]; exact hul)
  rw [List.append_nil] at bb
  refine wpAny_call (codeAny_call_def (Nat.lt_of_le_of_lt p2 hroom) (KX _ _ lk) rfl (ok.mod.nolimit.keeps hbk) (PySem.W.codeRec_of KX hcd) rfl bb hcell (fun y hy => hloc _ (List.of_mem_zip hy).1) (fun h0 hns hk0 => ?_) hco hgen hk)
  generalize hR' : (Rw.mk (callEnv (PySem.W.fnOf x x (defArgs st) (defBody st) (defScope st) .none kV doc pm an cdv ct) s1.heap.objs.size f) (R.D + 1) (R.U + 3) (fun g => R.S g ∧ g.Ns s1.heap.objs.size fun y => (ps.zip us).reverse.lookup y)) = R'
  have hok : R'.Ok K mg base := by
    subst hR'
    exact ⟨ok.mod, hk, rfl, rfl, fun h h' hh kk => ⟨ok.mono _ _ hh.1 kk, hh.2.keeps kk⟩, fun h hh => ok.bk _ hh.1⟩
  have hb := hbody R' us hok (by rw [← hR']) (by rw [← hR']) (by rw [← hR'] <;> rfl) (fun g hg => by rw [← hR'] at hg; exact hg.1) (fun g hg => by rw [← hR'] at hg ⊢; exact hg.2) r
  subst hR'
  refine wpAny_mono (hb _ _ { s1 with heap := h0, toks := s1.toks + (ps.zip us).length } p1 ?_ ?_ ⟨ok.mono _ _ hS1 hk0, hns⟩) (fun fl s2 ⟨y, e1, r2, k2⟩ => ?_) fun _ _ x => x
  · show A'.depth + 1 ≤ R.D + 1
    omega
  · show A'.units + 3 ≤ R.U + 3
    omega
  · subst e1
    have k3 : Keeps s1 { s1 with heap := h0, toks := s1.toks + (ps.zip us).length } := ⟨h0, _, rfl, hk0⟩
    exact ⟨r2, keepsT k1 (keepsT k3 k2)⟩
end

end M10
set_option Elab.async false
set_option linter.all false
set_option maxRecDepth 100000
set_option maxHeartbeats 4000000
namespace M10
open PySem PySem.Spec PyProof.Rows L2 Evl
/-! ### is_in, is_entry, raw -/
theorem zip3 {a b c : Str} {u v w : Value} (h1 : b ≠ a) (h2 : c ≠ a) (h3 : c ≠ b) : (fun y => (([a, b, c] : List Str).zip [u, v, w]).reverse.lookup y) a = some u ∧ (fun y => (([a, b, c] : List Str).zip [u, v, w]).reverse.lookup y) b = some v ∧
    (fun y => (([a, b, c] : List Str).zip [u, v, w]).reverse.lookup y) c = some w := by
  have e1 : (a == b) = false := beq_eq_false_iff_ne.mpr h1.symm
  have e2 : (a == c) = false := beq_eq_false_iff_ne.mpr h2.symm
  have e3 : (b == c) = false := beq_eq_false_iff_ne.mpr h3.symm
  refine ⟨?_, ?_, ?_⟩ <;> simp [List.lookup, e1, e2, e3]
theorem zip2 {a b : Str} {u v : Value} (h1 : b ≠ a) : (fun y => (([a, b] : List Str).zip [u, v]).reverse.lookup y) a = some u ∧ (fun y => (([a, b] : List Str).zip [u, v]).reverse.lookup y) b = some v := by
  have e1 : (a == b) = false := beq_eq_false_iff_ne.mpr h1.symm
  refine ⟨?_, ?_⟩ <;> simp [List.lookup, e1]
theorem vals3 {x y z : V} {us : List Value} (h : Vals [x, y, z] us) : ∃ a b c, us = [a, b, c] ∧ RelV x a ∧ RelV y b ∧ RelV z c := by
  cases h with
  | cons h1 t =>
    cases t with
    | cons h2 t =>
      cases t with
      | cons h3 t =>
        cases t
        exact ⟨_, _, _, rfl, h1, h2, h3⟩
section
variable {P : Program} {w : World} {K : PySem.W.Frag} {mg : Str → Option Value} {base : Heap} {R : Rw}
theorem rp_isInt (ok : R.Ok K mg base) {e c : Expr} {p pos : Pos} {i : Int} {n : String} {b : Bool} (hg : R.env.kindOf "isinstance" = some .globalImplicit) (hm : mg "isinstance" = none) (he : RP P w R e (.int i)) (hc : RP P w R c (.ty n)) (hk : PySem.W.kitOne K (.type "int") (.type n) = some b)
    (hs : starEach [e, c] R.env = (false, eval e R.env) :: starEach [c] R.env := by rfl) (hs2 : starEach [c] R.env = (false, eval c R.env) :: starEach [] R.env := by rfl) : RP P w R (.Call (.Name "isinstance" p) [e, c] [] pos) (.bl b) :=
  rp_isi ok hg hm he hc (.ty n) hk (fun g x _ hx => by
    obtain ⟨t, rfl⟩ := hx
    exact ⟨_, PySem.W.kitx_int, True.intro, fun z => nomatch z⟩) hs hs2
theorem rp_isTup (ok : R.Ok K mg base) {e c : Expr} {p pos : Pos} {a : Addr} {xs : List V} (hg : R.env.kindOf "isinstance" = some .globalImplicit) (hm : mg "isinstance" = none) (he : RP P w R e (.ref a)) (hc : RP P w R c (.ty "tuple")) (ht : ∀ g : Heap, R.S g → TupH g a xs)
    (hs : starEach [e, c] R.env = (false, eval e R.env) :: starEach [c] R.env := by rfl) (hs2 : starEach [c] R.env = (false, eval c R.env) :: starEach [] R.env := by rfl) : RP P w R (.Call (.Name "isinstance" p) [e, c] [] pos) (.bl true) :=
  rp_isi ok hg hm he hc (t := .type "tuple") (.ty "tuple") (by rfl) (fun g x hg2 hx => by
    obtain rfl : x = Value.ref a := hx
    obtain ⟨_, its, _, o, h1, h2, _⟩ := ht g hg2
    exact ⟨_, PySem.W.kitx_tuple, ⟨o, h1, h2⟩, fun z => nomatch z⟩) hs hs2
theorem sc_is_in : FnScope ["value", "least", "most"] ["value", "least", "most"] (defScope s_is_in) := ⟨rfl, rfl, rfl, by decide +kernel, rfl, by decide +kernel, by decide +kernel⟩
theorem rp_is_in (ok : R.Ok K mg base) (D : Dd K mg "is_in" s_is_in ["value", "least", "most"]) (T : Tb K mg) {e1 e2 e3 : Expr} {p pos : Pos} {i lo hi : Int} (hg : R.env.kindOf "is_in" = some .globalImplicit) (ha : RA P w R [e1, e2, e3] [.int i, .int lo, .int hi]) (h1 : lo ≤ i) (h2 : i ≤ hi) (hroom : R.D < recursionLimit)
    (hs : starEach [e1, e2, e3] R.env = (false, eval e1 R.env) :: starEach [e2, e3] R.env := by rfl) (hpl : (backTo pos (starEach [e2, e3] R.env)).any (·.1) = false := by rfl) : RP P w R (.Call (.Name "is_in" p) [e1, e2, e3] [] pos) (.bl true) := by
  refine rp_fn ok D hg ha rfl hroom rfl rfl rfl (by decide +kernel) (by decide +kernel) (fun R' us ok' _ _ hsc hsub hns r => ?_) (by decide) hs hpl
  obtain ⟨u1, u2, u3, rfl, r1, r2, r3⟩ := vals3 r
  obtain ⟨z1, z2, z3⟩ := zip3 (a := "value") (b := "least") (c := "most") (u := u1) (v := u2) (w := u3) (by decide) (by decide) (by decide)
  have hV : ∀ {q : Pos}, RP P w R' (.Name "value" q) (.int i) := rp_loc ok' (by rw [hsc]; rfl) fun g hg2 => ⟨_, u1, hns g hg2, z1, r1⟩
  have hL : ∀ {q : Pos}, RP P w R' (.Name "least" q) (.int lo) := rp_loc ok' (by rw [hsc]; rfl) fun g hg2 => ⟨_, u2, hns g hg2, z2, r2⟩
  have hM : ∀ {q : Pos}, RP P w R' (.Name "most" q) (.int hi) := rp_loc ok' (by rw [hsc]; rfl) fun g hg2 => ⟨_, u3, hns g hg2, z3, r3⟩
  have kI : R'.env.kindOf "isinstance" = some .globalImplicit := by show R'.env.scope.names.lookup _ = _; rw [hsc]; rfl
  have hI : ∀ {q : Pos}, RP P w R' (.Name "int" q) (.ty "int") := rp_ty ok' (by show R'.env.scope.names.lookup _ = _; rw [hsc]; rfl) T.int (by decide +kernel)
  have hB : ∀ {q : Pos}, RP P w R' (.Name "bool" q) (.ty "bool") := rp_ty ok' (by show R'.env.scope.names.lookup _ = _; rw [hsc]; rfl) T.bool (by decide +kernel)
  exact rb_ret (rp_and ok' (rp_isInt ok' kI T.isinstance hV hI (by rfl)) (rp_and ok' (rp_not (rp_isInt ok' kI T.isinstance hV hB (by rfl))) (rp_one (rp_lele ok' hL hV hM h1 h2 (by with_unfolding_all rfl)))))
theorem sc_is_entry : FnScope ["value", "most"] ["value", "most"] (defScope s_is_entry) := ⟨rfl, rfl, rfl, by decide +kernel, rfl, by decide +kernel, by decide +kernel⟩
theorem rp_is_entry (ok : R.Ok K mg base) (D : Dd K mg "is_entry" s_is_entry ["value", "most"]) (D2 : Dd K mg "is_in" s_is_in ["value", "least", "most"]) (T : Tb K mg) {e1 e2 : Expr} {p pos : Pos} {a : Addr} {x y m : Int} (hg : R.env.kindOf "is_entry" = some .globalImplicit) (ha : RA P w R [e1, e2] [.ref a, .int m])
    (ht : ∀ g : Heap, R.S g → TupH g a [.int x, .int y]) (h1 : 0 ≤ x) (h2 : x ≤ m - 1) (h3 : 0 ≤ y) (h4 : y ≤ 4) (hroom : R.D + 1 < recursionLimit)
    (hs : starEach [e1, e2] R.env = (false, eval e1 R.env) :: starEach [e2] R.env := by rfl) (hpl : (backTo pos (starEach [e2] R.env)).any (·.1) = false := by rfl) : RP P w R (.Call (.Name "is_entry" p) [e1, e2] [] pos) (.bl true) := by
  refine rp_fn ok D hg ha rfl (by omega) rfl rfl rfl (by decide +kernel) (by decide +kernel) (fun R' us ok' hD hU hsc hsub hns r => ?_) (by decide) hs hpl
  obtain ⟨u1, u2, rfl, r1, r2⟩ := vals2 r
  obtain ⟨z1, z2⟩ := zip2 (a := "value") (b := "most") (u := u1) (v := u2) (by decide)
  have ht' : ∀ g : Heap, R'.S g → TupH g a [.int x, .int y] := fun g hg2 => ht g (hsub g hg2)
  have hV : ∀ {q : Pos}, RP P w R' (.Name "value" q) (.ref a) := rp_loc ok' (by rw [hsc]; rfl) fun g hg2 => ⟨_, u1, hns g hg2, z1, r1⟩
  have hM : ∀ {q : Pos}, RP P w R' (.Name "most" q) (.int m) := rp_loc ok' (by rw [hsc]; rfl) fun g hg2 => ⟨_, u2, hns g hg2, z2, r2⟩
  have kk : ∀ {nm : Str}, (defScope s_is_entry).names.lookup nm = some .globalImplicit → R'.env.kindOf nm = some .globalImplicit := fun h => by show R'.env.scope.names.lookup _ = _; rw [hsc]; exact h
  have hT : ∀ {q : Pos}, RP P w R' (.Name "tuple" q) (.ty "tuple") := rp_ty ok' (kk rfl) T.tuple (by decide +kernel)
  have hL : ∀ {q : Pos}, RP P w R' (.Name "MOST_LATES" q) (.int 4) := rp_glob ok' (kk rfl) T.MOST_LATES
  refine rb_skip ok' (RTs.rt (rt_or ok' (RTs.rt (b := !true) (rt_not (rt_val (rp_isTup ok' (kk rfl) T.isinstance hV hT ht')))) (rt_or ok' (RTs.rt (rt_ne ok' (rp_len ok' (kk rfl) T.len hV ht') rp_int (by rfl) (nomark _))) rt_or_nil))) ?_
  refine rb_ret (rp_and ok' (rp_is_in ok' D2 T (kk rfl) (ra_cons ok' (rp_ix ok' hV rp_int ht' rfl (fun _ _ => rfl)) (ra_cons ok' rp_int (ra_cons ok' (rp_sub ok' hM rp_int) ra_nil))) h1 h2 (by omega)) (rp_one ?_))
  exact rp_is_in ok' D2 T (kk rfl) (ra_cons ok' (rp_ix ok' hV rp_int ht' rfl (fun _ _ => rfl)) (ra_cons ok' rp_int (ra_cons ok' hL ra_nil))) h3 h4 (by omega)
end

end M10
set_option Elab.async false
set_option linter.all false
set_option maxRecDepth 100000
set_option maxHeartbeats 4000000
namespace M10
open PySem PySem.Spec PyProof.Rows L2 Evl
/-! ### all, any of a generator expression: each element by its raw run -/
section
variable {X : Cx} {pins : List (Addr × Obj)} {σ : L2.St} {H : Hp} {s : Shared}
/-- the element at y is b, in the generator's own frame -/
def Elt (X : Cx) (σ : L2.St) (scope : Scope) (x : Str) (elt : Expr) (H1 : Hp) (y : V) (b : Bool) : Prop :=
  ∀ R : Rw, R.Ok X.K X.mg X.base → R.D = X.A.depth + 1 → R.env.scope = scope → (∀ g, R.S g → ∃ m u, g.Ns R.env.locals m ∧ m x = some u ∧ RelV y u) →
    (∀ q ∈ scope.names, q.2 = .free → ∀ (j : Nat) (v : V), X.N[j]? = some q.1 → σ[j]? = some (some v) → ∃ c, R.env.cells.lookup q.1 = some c ∧ ∀ g, R.S g → ∃ u, g.IsCell c (some u) ∧ RelV v u) →
    (∀ g, R.S g → ∀ a xs, H1 a = some (.tup xs) → TupH g a xs) → RP X.prog X.w R elt (.bl b)
/-- an iterator o, newly laid, over things that stand in xs -/
structure Itb (X : Cx) (s1 : Shared) (o : Obj) (Pt : Addr) (xs : List V) : Prop where
  ex : ∃ (fp : List Addr) (Pv : Nat → Value → Prop) (St : Nat → Heap → Prop), (∀ b ∈ fp, b ≤ s1.heap.objs.size ∧ b ≠ Pt) ∧ (∀ A' : Around, A'.handled = none → Walks X.prog X.w A' s1.heap.objs.size fp [s1.heap.objs.size] xs.length Pv St) ∧ St 0 (s1.heap.push o) ∧
    ∀ i v, Pv i v → ∃ y, xs[i]? = some y ∧ RelV y v
theorem clo_at {cells : List (Str × Addr)} {names : List (Str × NameKind)} {n : Str} {c : Addr} (hm : (n, NameKind.free) ∈ names) (hc : cells.lookup n = some c) : (cloFrom cells names []).lookup n = some c := by
  obtain ⟨c', h⟩ := mem_lookup (cloFrom_has (cells := cells) (acc := []) hm)
  rcases cloFrom_mem (PySem.mem_of_lookup h) with h2 | ⟨_, h2⟩
  · cases h2
  · rw [hc] at h2
    rw [h, h2] <;> rfl
theorem gen_core {c Pt : Addr} {elt iter : Expr} {x : Str} {px gpos : Pos} {scope : Scope} {te : TE} {k : Nat} {Q' : Value → Shared → Prop} {bb : Bool} {Rr : V → Hp → Prop}
    (hr : Room k X.A) (TB : GxR.TabB X.base X.mg c Pt) (hcode : X.env.code = .ref c) (hkd : scope.kind = .function) (hcor : scope.isCoroutine = false) (hcell : ∀ y ∈ scope.names, y.2 ≠ .cell) (hdot : scope.names.lookup (".0" : Str) = some NameKind.local)
    (hloc : scope.names.lookup x = some .local) (hfr : ∀ y ∈ scope.names, y.2 = .free → X.env.kindOf y.1 = some .cell) (hi : PE X iter te) (hs : ∀ v, genFold iter X.env v = pure v) (I : Inv X pins σ H s) (h : te σ H Rr)
    (hsrc : ∀ (v : V) (H1 : Hp) (s1 : Shared) (xv : Value), Rr v H1 → Inv X pins σ H1 s1 → RelV v xv → ∃ (o : Obj) (xs : List V) (ps : Array Value), H1 Pt = some (.tbl ps) ∧ TriplesOk ps.toList ∧
      (∀ (Q2 : Value → Shared → Prop) (E2 : Value → Shared → Prop), Q2 (.ref s1.heap.objs.size) { s1 with heap := s1.heap.push o } → wpAny (model X.prog X.w) X.A (pyIter xv) Q2 E2 s1) ∧ Itb X s1 o Pt xs ∧ (∀ y ∈ xs, Elt X σ scope x elt H1 y bb) ∧
      ∀ (g : Addr) (s5 : Shared), (∃ (fp wr : List Addr) (G : Array GenState → Array GenState → Prop) (F : Nat → Value → Prop) (St : Nat → Shared → Prop), WalksS X.prog X.w X.A.in1 g fp wr G xs.length F St ∧ St 0 s5 ∧ TruthOf X.prog X.w X.A.in1 F (fun _ => bb) ∧
        ∀ s', Moved wr G s5 s' → ∃ H2, GxR.Tabbed Pt H1 H2 ∧ Inv X pins σ H2 s') → Q' (.ref g) s5) :
    wpAny (model X.prog X.w) X.A (eval (.GeneratorExp elt [⟨.Name x px, iter, [], 0⟩] scope gpos) X.env) Q' X.xe s := by
  have hfree : ∀ y ∈ scope.names, y.2 = .free → ∃ c, X.env.cells.lookup y.1 = some c := fun y hy hf => I.ok.has y.1 (.inl (hfr y hy hf))
  refine wpAny_GeneratorExp_walksQD hr.hd hcor (closure_ok hfree) hcell hdot hloc hkd (by have := hr.dp; omega) ?_ hs
  refine thn (hi.run pins s σ H _ I h) fun xv s1 ⟨v, H1, I1, r1, hR1⟩ => ?_
  obtain ⟨o, xs, ps, hPt, htri, hpy, ⟨fp, Pv, St, hfp, hW, hSt, hPv⟩, hel, hfin⟩ := hsrc v H1 s1 xv hR1 I1 r1
  refine hpy _ _ ?_
  have tabS : s1.heap.get? Pt = some { cls := .none, data := .fields ps } := I1.hok Pt _ hPt
  have ltS : Pt < s1.heap.objs.size := Heap.lt_size tabS
  have tabN : (s1.heap.push o).get? Pt = some { cls := .none, data := .fields ps } := Heap.get?_push_of_some _ tabS
  have hcd : PySem.W.CodeHd (s1.heap.push o) c Pt := TB.code.keeps fun b u e => Heap.get?_push_of_some _ (I1.bk b u e)
  have hlim : (s1.heap.push o).NoLimit := I1.nolimit.push o
  have onw : ∀ (code : Value) (g3 : Heap) (tk : Nat) (pq : Array Value), Heap.ExtBut Pt (s1.heap.push o) g3 → (s1.heap.push o).objs.size ≤ g3.objs.size → g3.get? Pt = some { cls := .none, data := .fields pq } → (∃ more, pq = ps ++ more) → TriplesOk pq.toList →
      wpAny (model X.prog X.w) X.A (builtinsFor X.env.globals X.env.builtins) (fun bi s₄ =>
        ∃ Ia fp wr n₀ Pf St₀ pz F, Value.ref s1.heap.objs.size = .ref Ia ∧ (∀ A' : Around, A'.handled = none → Walks X.prog X.w A' Ia fp wr n₀ Pf St₀) ∧ St₀ 0 s₄.heap ∧ (∀ b ∈ fp, b < s₄.heap.objs.size) ∧ s₄.heap.NoLimit ∧ cStatics ∉ wr ∧
          (∀ hf : Heap, (∀ b o, s₄.heap.get? b = some o → hf.get? b = some o) →
            QuietGenD X.prog X.w (genEnv scope (cloFrom X.env.cells scope.names []) s₄.heap.objs.size code bi X.env) x [] elt (List.range s₄.heap.objs.size) wr Pf pz F hf (X.A.depth + 1) (X.A.units + 8)) ∧
          (∀ a h₅ tk gs, gs.bare = true → s₄.heap.objs.size < a → h₅.objs.size = a + 1 → (∀ b o, s₄.heap.get? b = some o → h₅.get? b = some o) →
            WalksS X.prog X.w X.A.in4 a (a :: s₄.heap.objs.size :: List.range s₄.heap.objs.size) (s₄.heap.objs.size :: wr) (GenOnlyQ s₄.gens.size) (passing pz n₀ 0).length
              (fun j y => ∃ i, (passing pz n₀ 0)[j]? = some i ∧ F i y) (GenAt X.prog X.w X.A.in4 a s₄.gens.size s₄.heap.objs.size (List.range s₄.heap.objs.size) wr pz n₀ F) →
            GenAt X.prog X.w X.A.in4 a s₄.gens.size s₄.heap.objs.size (List.range s₄.heap.objs.size) wr pz n₀ F 0 { s₄ with gens := s₄.gens.push gs, toks := tk, heap := h₅ } →
            Q' (.ref a) { s₄ with gens := s₄.gens.push gs, toks := tk, heap := h₅ })) X.xe { s1 with heap := g3, toks := tk } := by
    intro code g3 tk pq hx hsz htab3 hmore htri3
    obtain ⟨bm, bo, b1, b2, b3, b4, b5, b6, b7, b8⟩ := TB.bm
    have hcP : cStatics ≠ Pt := fun e => by
      obtain ⟨_, hns, _⟩ := I1.nolimit
      obtain ⟨o', es, ep, ho, hd, _⟩ := hns
      rw [e, tabS] at ho
      cases ho
      cases hd
    have hcl : cStatics < s1.heap.objs.size := let ⟨_, hns, _⟩ := I1.nolimit; hns.lt
    have szN : (s1.heap.push o).objs.size = s1.heap.objs.size + 1 := Heap.size_push ..
    have keep3 : ∀ b u, b ≠ Pt → s1.heap.get? b = some u → g3.get? b = some u := fun b u hb e => hx b u hb (Heap.get?_push_of_some _ e)
    have hlim3 : g3.NoLimit := hlim.extBut hx hcP
    refine wpAny_builtinsFor (m := X.mg) (by rw [I1.ok.glob]; exact ((I1.mod.glob.keeps I1.bk).push o).extBut hx TB.gP) b1 b2 (keep3 _ _ b4 (I1.bk _ _ b5)) b6 b7 b8 ?_
    have W1 := hW X.A hr.hd
    refine ⟨s1.heap.objs.size, fp, [s1.heap.objs.size], xs.length, Pv, St, (fun _ => true), (fun _ y => y = .bool bb), rfl, hW, W1.frame _ _ _ hSt fun b hb u e => hx b u (hfp b hb).2 e, fun b hb => ?_, hlim3, fun z => ?_, fun hf hhf => ⟨fun A' E' i v s₂ m₂ _ _ _ _ _ _ _ => ?_, fun A' E' i v s₂ m₂ hA hAd hAu hpv _ hn hm hk => ?_⟩, ?_⟩
    · have := (hfp b hb).1
      show b < g3.objs.size
      exact Nat.lt_of_le_of_lt this (by omega)
    · rcases List.mem_cons.mp z with z | z
      · exact Nat.ne_of_lt hcl z
      · cases z
    · simp only [List.forIn_nil]
      exact wpAny_pure ⟨rfl, GxR.keeps_refl _⟩
    · obtain ⟨y, hy1, hy2⟩ := hPv i v hpv
      -- what stands in the generator's frame
      generalize hRR : (Rw.mk (genEnv scope (cloFrom X.env.cells scope.names []) g3.objs.size code builtinsNs X.env) (X.A.depth + 1) (X.A.units + 8)
        (fun g => (∀ b u, b ≠ Pt → s1.heap.get? b = some u → g.get? b = some u) ∧ g.Ns g3.objs.size m₂)) = RR
      have kp2 : ∀ b u, b ≠ Pt → s1.heap.get? b = some u → s₂.heap.get? b = some u := fun b u hb e => by
        have hl := Heap.lt_size e
        have e3 := keep3 b u hb e
        exact hk b (List.mem_range.mpr (Heap.lt_size e3)) (fun z => by
          rcases List.mem_cons.mp z with z | z
          · rw [z] at hl
            exact Nat.lt_irrefl _ hl
          · cases z) u (hhf b u e3)
      have bkP : ∀ b u, X.base.get? b = some u → b ≠ Pt := fun b u e z => by
        have h0 : H1 b = none := (I1.env0.bs b u e).2
        rw [z, hPt] at h0
        cases h0
      have okR : RR.Ok X.K X.mg X.base := by
        subst hRR
        exact ⟨I1.ok.mod, hkd, I1.ok.glob, rfl, fun h h' hh kk => ⟨fun b u hb e => kk b u (hh.1 b u hb e), hh.2.keeps kk⟩, fun h hh b u e => hh.1 b u (bkP b u e) (I1.bk b u e)⟩
      have hSn : RR.S s₂.heap := by
        subst hRR
        exact ⟨kp2, hn⟩
      have hrun := hel y (List.mem_of_getElem? hy1) RR okR (by rw [← hRR]) (by rw [← hRR] <;> rfl) (fun g hg => ⟨m₂, v, by rw [← hRR] at hg ⊢; exact hg.2, hm, hy2⟩) (fun q hq hqf j z hj hz => ?_) (fun g hg a zs ha => ?_) A' E' s₂ hA (by rw [← hRR]; exact hAd) (by rw [← hRR]; exact hAu) hSn
      · subst hRR
        exact wpAny_mono hrun (fun r s3 ⟨r1, k1⟩ => ⟨r1, k1⟩) fun _ _ e => e
      · obtain ⟨m, hm1, hm2⟩ := I1.loc
        have hkc := hfr q hq hqf
        obtain ⟨u, ru, lk⟩ := hm2 j q.1 z hj hz (.inr (.inl hkc))
        rcases lk with ⟨l1, _⟩ | ⟨_, cc, l1, l2⟩
        · rw [hkc] at l1
          cases l1
        · refine ⟨cc, ?_, fun g hg => ⟨u, ?_, ru⟩⟩
          · rw [← hRR]
            exact clo_at (by obtain ⟨n1, n2⟩ := q; simp only at hqf; subst hqf; exact hq) l1
          · rw [← hRR] at hg
            obtain ⟨oc, l3, l4⟩ := l2
            exact ⟨oc, hg.1 cc oc (fun z2 => by
              rw [z2, tabS] at l3
              cases l3
              cases l4) l3, l4⟩
      · rw [← hRR] at hg
        obtain ⟨hz1, its, rv, oo, t1, t2, n, t3⟩ := (show ObjOk X.prog X.w H1 s1.heap a (.tup zs) from I1.hok a _ ha)
        exact ⟨hz1, its, rv, oo, hg.1 a oo (fun z2 => by
          rw [z2, hPt] at ha
          cases ha) t1, t2, n, t3⟩
    · intro g h5 tk5 gs hgb hag hsz5 hk5 W5 hat
      simp only [GxR.passing_true, List.length_range] at W5
      refine hfin g _ ⟨_, _, _, _, _, W5.in4_1, hat, fun j y sj Qj Ej hy hQj => ?_, fun s' hm => ?_⟩
      · obtain ⟨i, _, rfl⟩ := hy
        exact wpAny_truthy_bool hQj
      · obtain ⟨more, em⟩ := hmore
        have nwr : ∀ b u, s1.heap.get? b = some u → b ∉ g3.objs.size :: [s1.heap.objs.size] := fun b u e hb => by
          have hl := Heap.lt_size e
          rcases List.mem_cons.mp hb with z | z
          · have hb9 : b = g3.objs.size := z
            have hle : s1.heap.objs.size ≤ g3.objs.size := by
              rw [szN] at hsz
              exact Nat.le_of_succ_le hsz
            rw [hb9] at hl
            exact Nat.lt_irrefl _ (Nat.lt_of_lt_of_le hl hle)
          · rcases List.mem_cons.mp z with z | z
            · rw [z] at hl
              exact Nat.lt_irrefl _ hl
            · cases z
        have J := GxR.inv_tab (more := more) (h' := s'.heap) (g' := s'.gens) (d' := s'.drawn) (t' := s'.toks) I1 hPt (fun b u hb e => hm.heap b u (nwr b u e) (hk5 b u (keep3 b u hb e)))
          (by rw [← em]; exact hm.heap Pt _ (nwr Pt _ tabS) (hk5 Pt _ htab3)) (AllBare.movedS (I1.bare.push hgb) hm)
        rw [GxR.sh_eta s1 s' hm.os] at J
        exact ⟨upd H1 Pt (.tbl (ps ++ more)), ⟨⟨ps ++ more, upd_same, by rw [← em]; exact htri3⟩, fun b hb => upd_ne hb⟩, J⟩
  refine ⟨hlim, ?_⟩
  cases hf : codeAmong gpos ps.toList with
  | none =>
    refine wpAny_genexprCodeX hcode (hcd.code tabN htri) (hcd.tab tabN) hf fun c' h' tk hx hge hlt hco' _ htab' _ => ?_
    obtain ⟨o1, vs, f1, tf, fl, tg, inF, tx, tt, op, _, _, _, _, _, _, _, _, _, htr, _⟩ := hco'
    exact onw _ h' tk _ hx (Nat.le_trans hge (Nat.le_of_lt hlt)) htab'.2 ⟨_, rfl⟩ htr
  | some cv =>
    refine wpAny_genexprCode_hit hcode (hcd.code tabN htri) hf ?_
    exact onw cv (s1.heap.push o) s1.toks ps (Heap.ExtBut.refl _ _) (Nat.le_refl _) tabN ⟨#[], by simp⟩ htri
end

end M10
set_option Elab.async false
set_option linter.all false
set_option maxRecDepth 100000
set_option maxHeartbeats 4000000
namespace M10
open PySem PySem.Spec PyProof.Rows L2 Evl
/-! ### range as a value; all over a tuple, any over a range -/
theorem cr_range1 {X : Cx} : CallR X (.type "range") (fun vs H Q => ∃ j, vs = [V.int j] ∧ ∀ p, H p = none → Q (.ref p) (upd H p (.rng 0 j))) := by
  intro pins s σ H vs us Q I r h
  obtain ⟨j, rfl, q⟩ := h
  obtain ⟨u1, rfl, ri⟩ := vals1 r
  obtain ⟨t, rfl⟩ := ri
  exact call_range_1 ⟨.ref s.heap.objs.size, upd H s.heap.objs.size (.rng 0 j), I.laid (t' := s.toks + 1 + 1) (fun b o e => Heap.get?_push_of_some _ e) (Nat.le_refl _) ⟨_, _, _, Heap.get?_push_size _ rfl⟩, rfl, q _ (I.hok.fresh (Nat.le_refl _))⟩
def tAllT (X : Cx) (Pt : Addr) (scope : Scope) (x : Str) (elt : Expr) (te : TE) : TE := fun σ H Q => te σ H fun v H1 => ∃ (a : Addr) (xs : List V), v = .ref a ∧ H1 a = some (.tup xs) ∧ GxR.TabG H1 Pt ∧ (∀ y ∈ xs, Elt X σ scope x elt H1 y true) ∧ ∀ H2, GxR.Tabbed Pt H1 H2 → Q (.bl true) H2
def tAnyR (X : Cx) (Pt : Addr) (scope : Scope) (x : Str) (elt : Expr) (te : TE) : TE := fun σ H Q => te σ H fun v H1 => ∃ (a : Addr) (n : Nat), v = .ref a ∧ H1 a = some (.rng 0 n) ∧ n ≤ 1000000 ∧ GxR.TabG H1 Pt ∧ (∀ i : Nat, i < n → Elt X σ scope x elt H1 (.int i) false) ∧ ∀ H2, GxR.Tabbed Pt H1 H2 → Q (.bl false) H2
theorem walks_lt {prog : Program} {w : World} {A : Around} {I : Addr} {fp wr : List Addr} {n : Nat} {Pv : Nat → Value → Prop} {St : Nat → Heap → Prop} (W : Walks prog w A I fp wr n Pv St) : Walks prog w A I fp wr n (fun i v => i < n ∧ Pv i v) St :=
  ⟨W.sub, W.frame, fun i s Q E hi st hQ => W.item i s Q E hi st fun v h' tk hp => hQ v h' tk ⟨hi, hp⟩, W.done, W.self⟩
section
variable {X : Cx}
theorem itb_tup {pins : List (Addr × Obj)} {σ : L2.St} {H1 : Hp} {s1 : Shared} {a Pt : Addr} {xs : List V} {ps : Array Value} (I1 : Inv X pins σ H1 s1) (ha : H1 a = some (.tup xs)) (hP : H1 Pt = some (.tbl ps)) :
    ∃ o : Obj, (∀ (Q2 : Value → Shared → Prop) (E2 : Value → Shared → Prop), Q2 (.ref s1.heap.objs.size) { s1 with heap := s1.heap.push o } → wpAny (model X.prog X.w) X.A (pyIter (.ref a)) Q2 E2 s1) ∧ Itb X s1 o Pt xs := by
  obtain ⟨hz1, its, rv, oo, t1, t2, n, t3⟩ := (show ObjOk X.prog X.w H1 s1.heap a (.tup xs) from I1.hok a _ ha)
  have hT : s1.heap.IsTuple a its.toArray := ⟨oo, t1, t2, n, t3⟩
  have hlt := Heap.lt_size t1
  have tabS : s1.heap.get? Pt = some { cls := .none, data := .fields ps } := I1.hok Pt _ hP
  have hlen : its.toArray.size = xs.length := by rw [List.size_toArray, rv.length]
  refine ⟨{ cls := .type "tuple_iterator", data := .fields #[.ref a, .int 0 0] }, fun Q2 E2 h => wpAny_pyIter_tuple hT h, [s1.heap.objs.size, a], (fun i v => its.toArray[i]? = some v), (fun i g => g.IsTupleIter s1.heap.objs.size a i ∧ g.IsTuple a its.toArray), fun b hb => ?_, fun A' hA => ?_, ⟨⟨_, Heap.get?_push_size _ rfl, rfl, rfl⟩, hT.at fun o e => Heap.get?_push_of_some _ e⟩, fun i v hv => ?_⟩
  · rcases List.mem_cons.mp hb with z | z
    · rw [z]
      exact ⟨Nat.le_refl _, fun z2 => by
        have := Heap.lt_size tabS
        rw [← z2] at this
        exact Nat.lt_irrefl _ this⟩
    · rw [List.mem_singleton.mp z]
      exact ⟨Nat.le_of_lt hlt, fun z2 => by rw [z2, hP] at ha; cases ha⟩
  · rw [← hlen]
    exact Walks.tuple hA _ _ (Nat.ne_of_lt hlt) _
  · have hv2 : its[i]? = some v := by simpa using hv
    have hi2 : i < its.length := (List.getElem?_eq_some_iff.mp hv2).1
    have hl := rv.length
    obtain ⟨y, hy⟩ : ∃ y, xs[i]? = some y := ⟨xs[i]'(by omega), List.getElem?_eq_getElem _⟩
    obtain ⟨u, hu, ru⟩ := rv.get hy
    rw [hv2] at hu
    cases hu
    exact ⟨y, hy, ru⟩
theorem itb_rng {pins : List (Addr × Obj)} {σ : L2.St} {H1 : Hp} {s1 : Shared} {a Pt : Addr} {n : Nat} {ps : Array Value} (I1 : Inv X pins σ H1 s1) (ha : H1 a = some (.rng 0 n)) (hn : n ≤ 1000000) (hP : H1 Pt = some (.tbl ps)) :
    ∃ o : Obj, (∀ (Q2 : Value → Shared → Prop) (E2 : Value → Shared → Prop), Q2 (.ref s1.heap.objs.size) { s1 with heap := s1.heap.push o } → wpAny (model X.prog X.w) X.A (pyIter (.ref a)) Q2 E2 s1) ∧ Itb X s1 o Pt ((List.range n).map fun i => V.int (i : Nat)) := by
  obtain ⟨t, u, v, hr⟩ := (show ObjOk X.prog X.w H1 s1.heap a (.rng 0 n) from I1.hok a _ ha)
  have tabS : s1.heap.get? Pt = some { cls := .none, data := .fields ps } := I1.hok Pt _ hP
  have hs : Builtin.Range.small 0 n 1 = true := small_one (by decide) (by decide) (by omega) (by omega)
  have hsz : Builtin.Range.rangeSize 0 n 1 = (n : Int) := by
    rw [rangeSize_one]
    split <;> omega
  have hW : ∀ A' : Around, A'.handled = none → Walks X.prog X.w A' s1.heap.objs.size [s1.heap.objs.size] [s1.heap.objs.size] n (fun i v => ∃ t, v = .int (0 + (i : Int) * 1) t) (fun i h => IsRangeIter h s1.heap.objs.size (0 + ((i : Nat) : Int) * 1) ((n : Int) - ((i : Nat) : Int)) 1) := fun A' hA => Walks.range hA _ 0 1 n
  refine ⟨{ cls := .type "range_iterator", data := .fields #[rawInt 0, rawInt (Builtin.Range.rangeSize 0 n 1), rawInt 1] }, fun Q2 E2 h => wpAny_pyIter_range hr hs h, ⟨[s1.heap.objs.size], _, _, fun b hb => ?_, fun A' hA => by rw [List.length_map, List.length_range]; exact walks_lt (hW A' hA), ?_, fun i v hv => ?_⟩⟩
  · rw [List.mem_singleton.mp hb]
    exact ⟨Nat.le_refl _, fun z2 => by
      have := Heap.lt_size tabS
      rw [← z2] at this
      exact Nat.lt_irrefl _ this⟩
  · show IsRangeIter _ _ (0 + ((0 : Nat) : Int) * 1) ((n : Int) - ((0 : Nat) : Int)) 1
    have e1 : (0 : Int) + ((0 : Nat) : Int) * 1 = 0 := by decide
    have e2 : (n : Int) - ((0 : Nat) : Int) = Builtin.Range.rangeSize 0 n 1 := by rw [hsz]; omega
    rw [e1, e2]
    exact Heap.get?_push_size _ rfl
  · obtain ⟨hi, tk, rfl⟩ := hv
    refine ⟨.int (i : Int), by rw [List.getElem?_map, List.getElem?_range hi] <;> rfl, tk, ?_⟩
    rw [Int.zero_add, Int.mul_one]
variable {c Pt : Addr} {elt iter : Expr} {x : Str} {px p pos gpos : Pos} {scope : Scope} {te : TE} {k : Nat}
theorem all_tt (n : Nat) : (List.range n).all (fun _ => true) = true := by simp
theorem any_ff (n : Nat) : (List.range n).any (fun _ => false) = false := by simp
theorem pe_allT (hr : Room k X.A) (TB : GxR.TabB X.base X.mg c Pt) (hcode : X.env.code = .ref c) (hg : Gl X "all") (hm : X.mg "all" = none) (hi : PE X iter te) (hkd : scope.kind = .function) (hcor : scope.isCoroutine = false) (hcell : ∀ y ∈ scope.names, y.2 ≠ .cell)
    (hdot : scope.names.lookup (".0" : Str) = some NameKind.local) (hloc : scope.names.lookup x = some .local) (hfr : ∀ y ∈ scope.names, y.2 = .free → X.env.kindOf y.1 = some .cell) (hs : ∀ v, genFold iter X.env v = pure v)
    (he : starEach [.GeneratorExp elt [⟨.Name x px, iter, [], 0⟩] scope gpos] X.env = (false, eval (.GeneratorExp elt [⟨.Name x px, iter, [], 0⟩] scope gpos) X.env) :: starEach [] X.env := by rfl) :
    PE X (.Call (.Name "all" p) [.GeneratorExp elt [⟨.Name x px, iter, [], 0⟩] scope gpos] [] pos) (tAllT X Pt scope x elt te) := by
  refine ⟨fun pins s σ H Q I h => ?_⟩
  refine wpAny_Call_Name_kw (ld_blt (u := .builtin "all") I hg hm (by decide +kernel) ?_)
  refine PyProof.Rows.callWith_builtin1 (id := "all") ?_ he (by rfl)
  rw [he]
  show wpAny _ _ (spliced ((false, eval (.GeneratorExp elt [⟨.Name x px, iter, [], 0⟩] scope gpos) X.env) :: backTo pos (starEach [] X.env))) _ _ s
  refine Calls.spliced_cons (gen_core (bb := true) hr TB hcode hkd hcor hcell hdot hloc hfr hi hs I h fun v H1 s1 xv q1 I1 r1 => ?_)
  obtain ⟨a, xs, rfl, ha, ⟨ps, hP, htr⟩, hel, hq⟩ := q1
  obtain rfl : xv = Value.ref a := r1
  obtain ⟨o, o1, o2⟩ := itb_tup I1 ha hP
  refine ⟨o, xs, ps, hP, htr, o1, o2, hel, fun g s5 ⟨fp, wr, G, F, Sg, W, hst, htru, hI⟩ => ?_⟩
  refine Calls.spliced_nil ?_
  refine call_all_walkS (W.self 0 _ _ _ hst ⟨g, fp, wr, G, _, F, Sg, _, rfl, W, hst, htru, fun s' hmv => ?_⟩)
  obtain ⟨H2, hT, J⟩ := hI s' hmv
  refine ⟨.bl true, H2, J, ?_, hq H2 hT⟩
  rw [all_tt] <;> rfl
theorem pe_anyR (hr : Room k X.A) (TB : GxR.TabB X.base X.mg c Pt) (hcode : X.env.code = .ref c) (hg : Gl X "any") (hm : X.mg "any" = none) (hi : PE X iter te) (hkd : scope.kind = .function) (hcor : scope.isCoroutine = false) (hcell : ∀ y ∈ scope.names, y.2 ≠ .cell)
    (hdot : scope.names.lookup (".0" : Str) = some NameKind.local) (hloc : scope.names.lookup x = some .local) (hfr : ∀ y ∈ scope.names, y.2 = .free → X.env.kindOf y.1 = some .cell) (hs : ∀ v, genFold iter X.env v = pure v)
    (he : starEach [.GeneratorExp elt [⟨.Name x px, iter, [], 0⟩] scope gpos] X.env = (false, eval (.GeneratorExp elt [⟨.Name x px, iter, [], 0⟩] scope gpos) X.env) :: starEach [] X.env := by rfl) :
    PE X (.Call (.Name "any" p) [.GeneratorExp elt [⟨.Name x px, iter, [], 0⟩] scope gpos] [] pos) (tAnyR X Pt scope x elt te) := by
  refine ⟨fun pins s σ H Q I h => ?_⟩
  refine wpAny_Call_Name_kw (ld_blt (u := .builtin "any") I hg hm (by decide +kernel) ?_)
  refine PyProof.Rows.callWith_builtin1 (id := "any") ?_ he (by rfl)
  rw [he]
  show wpAny _ _ (spliced ((false, eval (.GeneratorExp elt [⟨.Name x px, iter, [], 0⟩] scope gpos) X.env) :: backTo pos (starEach [] X.env))) _ _ s
  refine Calls.spliced_cons (gen_core (bb := false) hr TB hcode hkd hcor hcell hdot hloc hfr hi hs I h fun v H1 s1 xv q1 I1 r1 => ?_)
  obtain ⟨a, n, rfl, ha, hn, ⟨ps, hP, htr⟩, hel, hq⟩ := q1
  obtain rfl : xv = Value.ref a := r1
  obtain ⟨o, o1, o2⟩ := itb_rng I1 ha hn hP
  refine ⟨o, _, ps, hP, htr, o1, o2, fun y hy => ?_, fun g s5 ⟨fp, wr, G, F, Sg, W, hst, htru, hI⟩ => ?_⟩
  · obtain ⟨i, hi2, rfl⟩ := List.mem_map.mp hy
    exact hel i (List.mem_range.mp hi2)
  refine Calls.spliced_nil ?_
  refine call_any_walkS (W.self 0 _ _ _ hst ⟨g, fp, wr, G, _, F, Sg, _, rfl, W, hst, htru, fun s' hmv => ?_⟩)
  obtain ⟨H2, hT, J⟩ := hI s' hmv
  refine ⟨.bl false, H2, J, ?_, hq H2 hT⟩
  rw [any_ff] <;> rfl
end

end M10
set_option Elab.async false
set_option linter.all false
set_option maxRecDepth 100000
set_option maxHeartbeats 4000000
namespace M10
open PySem PySem.Spec PyProof.Rows L2 Evl
/-! ### the program's checks -/
theorem ps_never {X : Cx} {st : Stmt} : PS X st (fun _ _ _ => False) := ⟨fun _ _ _ _ _ _ h => h.elim⟩
/-- lists of the modules -/
structure Tb2 (K : PySem.W.Frag) (mg : Str → Option Value) : Prop where
  ALONE : ∃ a, mg "ALONE" = some (.ref a) ∧ ∀ H, SqL K H a [.str "plus", .str "minus", .str "times", .str "less", .str "back"]
  LEAPS : ∃ a, mg "LEAPS" = some (.ref a) ∧ ∀ H, SqL K H a [.str "jump", .str "zero"]
  CALLS : ∃ a, mg "CALLS" = some (.ref a) ∧ ∀ H, SqL K H a [.str "call", .str "tail"]
def spIsIn : Sp := fun vs H Q _ => ∃ i lo hi : Int, vs = [.int i, .int lo, .int hi] ∧ lo ≤ i ∧ i ≤ hi ∧ Q (.bl true) H
def spIsTup : Sp := fun vs H Q _ => ∃ (a : Addr) (t : Str) (xs : List V) (m : Int), vs = [.ref a, .int m] ∧ H a = some (.tup (.str t :: xs)) ∧ Q (.bl (decide ((xs.length : Int) + 1 = m))) H
def spIsIns : Sp := fun vs H Q _ => ∃ (v : V) (i : Ins) (nE : Nat) (m : Int), vs = [v, .int nE, .int m] ∧ InsAt H v i ∧ i.ok nE (m - 1) ∧ Q (.bl true) H
def spFuel : Sp := fun vs H Q _ => ∃ n : Int, vs = [.int n] ∧ 0 ≤ n ∧ n ≤ 100000 ∧ Q .non H
section
variable {P : Program} {w : World} {K : PySem.W.Frag} {mg : Str → Option Value} {base : Heap}
theorem ok_is_in (D : Dd K mg "is_in" s_is_in ["value", "least", "most"]) (T : Tb K mg) : Dn P w K mg base L2.CX0 1 "is_in" spIsIn := by
  refine D.ok sc_is_in (fun vs H Q E h => by obtain ⟨i, lo, hi, rfl, _⟩ := h; rfl) (fun f cdv A outer s H vs Q E hr h => ?_)
  obtain ⟨i, lo, hi, rfl, h1, h2, q⟩ := h
  refine ⟨_, (pss_one (ps_ret (pe_and (pcb call_isi T.isinstance (pa_cons (pv 0) (pa_cons (pe_ty (n := "int") T.int) pa_nil))) (pe_and (pe_not (pcb call_isi T.isinstance (pa_cons (pv 0) (pa_cons (pe_ty (n := "bool") T.bool) pa_nil)))) (pe_one (pe_chain op_le op_le (pv 1) (pv 0) (pv 2))))))), ?_⟩
  refine ⟨_, rfl, _, _, _, _, true, rfl, .ty "int", .base (.int i), rfl, _, rfl, ifT rfl ?_⟩
  refine ⟨_, rfl, _, _, _, _, false, rfl, .ty "bool", .base (.int i), rfl, _, rfl, _, rfl, ifT rfl ?_⟩
  refine ⟨_, rfl, _, rfl, _, _, rfl, rfl, _, rfl, ?_⟩
  rw [decide_eq_true h1]
  refine ifT rfl ⟨_, rfl, _, _, rfl, rfl, ?_⟩
  show Q (V.bl (decide (i ≤ hi))) H
  rw [decide_eq_true h2]
  exact q
theorem sc_is_tuple : FnScope ["value", "many"] ["value", "many"] (defScope s_is_tuple) := ⟨rfl, rfl, rfl, by decide +kernel, rfl, by decide +kernel, by decide +kernel⟩
theorem ok_is_tuple (D : Dd K mg "is_tuple" s_is_tuple ["value", "many"]) (T : Tb K mg) : Dn P w K mg base L2.CX0 1 "is_tuple" spIsTup := by
  refine D.ok sc_is_tuple (fun vs H Q E h => by obtain ⟨a, t, xs, m, rfl, _⟩ := h; rfl) (fun f cdv A outer s H vs Q E hr h => ?_)
  obtain ⟨a, t, xs, m, rfl, ha, q⟩ := h
  refine ⟨_, (pss_one (ps_ret (pe_and (pcb call_isi T.isinstance (pa_cons (pv 0) (pa_cons (pe_ty (n := "tuple") T.tuple) pa_nil))) (pe_and (pe_cmpR op_eq (pcb call_len_seq T.len (pa_cons (pv 0) pa_nil)) (pv 1) (nomark _)) (pe_one (pcb call_isi T.isinstance (pa_cons (pe_ix ix_tup (pv 0) pe_int (fun _ _ => rfl)) (pa_cons (pe_ty (n := "str") T.str) pa_nil)))))))), ?_⟩
  refine ⟨_, rfl, _, _, _, _, true, rfl, .ty "tuple", .base (.tup ha), rfl, _, rfl, ifT rfl ?_⟩
  have hl : ((V.str t :: xs).length : Int) = (xs.length : Int) + 1 := by rw [List.length_cons]; omega
  refine ⟨_, rfl, a, _, rfl, .inr (SqT.of ha), _, rfl, rfl, _, rfl, if2 (fun c => ?_) (fun c => ?_)⟩
  · have c' := V.int.inj (of_decide_eq_true c)
    rw [hl] at c'
    rw [decide_eq_true c'] at q
    exact ⟨_, rfl, a, _, _, _, rfl, rfl, SqT.of ha, at0 _ _, _, _, _, _, true, rfl, .ty "str", .base (.str t), rfl, q⟩
  · have c' : ¬ (xs.length : Int) + 1 = m := fun z => of_decide_eq_false c (by rw [hl, z])
    rw [decide_eq_false c'] at q
    exact q
theorem sc_need_fuel : FnScope ["fuel"] ["fuel"] (defScope s_need_fuel) := ⟨rfl, rfl, rfl, by decide +kernel, rfl, by decide +kernel, by decide +kernel⟩
theorem ok_need_fuel (D : Dd K mg "need_fuel" s_need_fuel ["fuel"]) (T : Tb K mg) (c_is_in : Dn P w K mg base L2.CX0 1 "is_in" spIsIn) : Dn P w K mg base L2.CX0 2 "need_fuel" spFuel := by
  refine D.ok sc_need_fuel (fun vs H Q E h => by obtain ⟨n, rfl, _⟩ := h; rfl) (fun f cdv A outer s H vs Q E hr h => ?_)
  obtain ⟨n, rfl, h1, h2, q⟩ := h
  refine ⟨_, (pss_one (ps_if (pt_not (pt_val (pe_c0 c_is_in hr (pa_cons (pv 0) (pa_cons pe_int (pa_cons (pe_k T.MOST_FUEL) pa_nil)))))) (pss_one ps_never) pss_nil)), ?_⟩
  exact ⟨_, rfl, _, _, _, rfl, h1, h2, _, rfl, ifF rfl q⟩
theorem sc_is_instruction : FnScope ["value", "entries", "most"] ["value", "entries", "most"] (defScope s_is_instruction) := ⟨rfl, rfl, rfl, by decide +kernel, rfl, by decide +kernel, by decide +kernel⟩
theorem ok_is_instruction (D : Dd K mg "is_instruction" s_is_instruction ["value", "entries", "most"]) (T : Tb K mg) (T2 : Tb2 K mg) (c_is_in : Dn P w K mg base L2.CX0 1 "is_in" spIsIn) (c_is_tuple : Dn P w K mg base L2.CX0 1 "is_tuple" spIsTup) : Dn P w K mg base L2.CX0 2 "is_instruction" spIsIns := by
  refine D.ok sc_is_instruction (fun vs H Q E h => by obtain ⟨v, i, nE, m, rfl, _⟩ := h; rfl) (fun f cdv A outer s H vs Q E hr h => ?_)
  obtain ⟨v, i, nE, m, rfl, ⟨a, rfl, ha⟩, hok, q⟩ := h
  obtain ⟨aA, hA, sA⟩ := T2.ALONE
  obtain ⟨aL, hL, sL⟩ := T2.LEAPS
  obtain ⟨aC, hC, sC⟩ := T2.CALLS
  have hALONE : ∃ u, mg "ALONE" = some u ∧ RelV (.ref aA) u := ⟨_, hA, rfl⟩
  have hLEAPS : ∃ u, mg "LEAPS" = some u ∧ RelV (.ref aL) u := ⟨_, hL, rfl⟩
  have hCALLS : ∃ u, mg "CALLS" = some u ∧ RelV (.ref aC) u := ⟨_, hC, rfl⟩
  refine ⟨_, (pss_cons (ps_if (pt_val (pe_c0 c_is_tuple hr (pa_cons (pv 0) (pa_cons pe_int pa_nil)))) (pss_one (ps_ret (pe_cmpR op_in_seq (pe_ix ix_tup (pv 0) pe_int (fun _ _ => rfl)) (pe_k hALONE) rfl))) pss_nil)
    (pss_cons (ps_if (pt_not (pt_val (pe_c0 c_is_tuple hr (pa_cons (pv 0) (pa_cons pe_int pa_nil))))) (pss_one (ps_ret pe_bl)) pss_nil)
    (pss_cons (ps_if (pt_cmpR op_eq (pe_ix ix_tup (pv 0) pe_int (fun _ _ => rfl)) pe_str (nomark _)) (pss_one (ps_ret (pe_c0 c_is_in hr (pa_cons (pe_ix ix_tup (pv 0) pe_int (fun _ _ => rfl)) (pa_cons pe_int (pa_cons (pe_k T.MOST_VALUE) pa_nil)))))) pss_nil)
    (pss_cons (ps_if (pt_cmpR op_eq (pe_ix ix_tup (pv 0) pe_int (fun _ _ => rfl)) pe_str (nomark _)) (pss_one (ps_ret (pe_c0 c_is_in hr (pa_cons (pe_ix ix_tup (pv 0) pe_int (fun _ _ => rfl)) (pa_cons pe_int (pa_cons (pe_op op_sub (pe_k T.MOST_LATES) pe_int) pa_nil)))))) pss_nil)
    (pss_cons (ps_if (pt_cmpR op_in_seq (pe_ix ix_tup (pv 0) pe_int (fun _ _ => rfl)) (pe_k hLEAPS) rfl) (pss_one (ps_ret (pe_c0 c_is_in hr (pa_cons (pe_ix ix_tup (pv 0) pe_int (fun _ _ => rfl)) (pa_cons pe_int (pa_cons (pe_op op_sub (pv 2) pe_int) pa_nil)))))) pss_nil)
    (pss_one (ps_ret (pe_and (pe_cmpR op_in_seq (pe_ix ix_tup (pv 0) pe_int (fun _ _ => rfl)) (pe_k hCALLS) rfl) (pe_one (pe_c0 c_is_in hr (pa_cons (pe_ix ix_tup (pv 0) pe_int (fun _ _ => rfl)) (pa_cons pe_int (pa_cons (pe_op op_sub (pv 1) pe_int) pa_nil))))))))))))), ?_⟩
  cases i with
  | op k4 =>
    refine ⟨_, rfl, a, k4.s, [], 1, rfl, ha, _, rfl, ifT (by decide) ?_⟩
    refine ⟨_, rfl, a, _, _, _, rfl, rfl, SqT.of ha, rfl, aA, _, rfl, .inl (sA _), rfl, by simp [flatV], ?_⟩
    have e : inV (.str k4.s) [.str "plus", .str "minus", .str "times", .str "less", .str "back"] = true := by cases k4 <;> decide +kernel
    show Q (V.bl (inV (.str k4.s) [.str "plus", .str "minus", .str "times", .str "less", .str "back"])) H
    rw [e]
    exact q
  | back =>
    refine ⟨_, rfl, a, "back", [], 1, rfl, ha, _, rfl, ifT (by decide) ?_⟩
    refine ⟨_, rfl, a, _, _, _, rfl, rfl, SqT.of ha, rfl, aA, _, rfl, .inl (sA _), rfl, by simp [flatV], ?_⟩
    have e : inV (.str "back") [.str "plus", .str "minus", .str "times", .str "less", .str "back"] = true := by decide +kernel
    show Q (V.bl (inV (.str "back") [.str "plus", .str "minus", .str "times", .str "less", .str "back"])) H
    rw [e]
    exact q
  | push n =>
    refine ⟨_, rfl, a, _, [.int n], 1, rfl, ha, _, rfl, ifF rfl ?_⟩
    refine ⟨_, rfl, a, _, [.int n], 2, rfl, ha, _, rfl, ifF rfl ?_⟩
    refine ⟨_, rfl, a, _, _, _, rfl, rfl, SqT.of ha, rfl, rfl, _, rfl, ifT (by decide +kernel) ?_⟩
    exact ⟨_, rfl, a, _, _, _, rfl, rfl, SqT.of ha, rfl, _, _, _, rfl, hok.1, hok.2, q⟩
  | arg n =>
    refine ⟨_, rfl, a, _, [.int n], 1, rfl, ha, _, rfl, ifF rfl ?_⟩
    refine ⟨_, rfl, a, _, [.int n], 2, rfl, ha, _, rfl, ifF rfl ?_⟩
    refine ⟨_, rfl, a, _, _, _, rfl, rfl, SqT.of ha, rfl, rfl, _, rfl, ifF (by decide +kernel) ?_⟩
    refine ⟨_, rfl, a, _, _, _, rfl, rfl, SqT.of ha, rfl, rfl, _, rfl, ifT (by decide +kernel) ?_⟩
    exact ⟨_, rfl, a, _, _, _, rfl, rfl, SqT.of ha, rfl, _, _, rfl, rfl, _, _, _, rfl, hok.1, hok.2, q⟩
  | jump n =>
    refine ⟨_, rfl, a, _, [.int n], 1, rfl, ha, _, rfl, ifF rfl ?_⟩
    refine ⟨_, rfl, a, _, [.int n], 2, rfl, ha, _, rfl, ifF rfl ?_⟩
    refine ⟨_, rfl, a, _, _, _, rfl, rfl, SqT.of ha, rfl, rfl, _, rfl, ifF (by decide +kernel) ?_⟩
    refine ⟨_, rfl, a, _, _, _, rfl, rfl, SqT.of ha, rfl, rfl, _, rfl, ifF (by decide +kernel) ?_⟩
    refine ⟨_, rfl, a, _, _, _, rfl, rfl, SqT.of ha, rfl, aL, _, rfl, .inl (sL _), rfl, by simp [flatV], _, rfl, ifT (by decide +kernel) ?_⟩
    exact ⟨_, rfl, a, _, _, _, rfl, rfl, SqT.of ha, rfl, _, rfl, _, _, rfl, rfl, _, _, _, rfl, hok.1, hok.2, q⟩
  | zero n =>
    refine ⟨_, rfl, a, _, [.int n], 1, rfl, ha, _, rfl, ifF rfl ?_⟩
    refine ⟨_, rfl, a, _, [.int n], 2, rfl, ha, _, rfl, ifF rfl ?_⟩
    refine ⟨_, rfl, a, _, _, _, rfl, rfl, SqT.of ha, rfl, rfl, _, rfl, ifF (by decide +kernel) ?_⟩
    refine ⟨_, rfl, a, _, _, _, rfl, rfl, SqT.of ha, rfl, rfl, _, rfl, ifF (by decide +kernel) ?_⟩
    refine ⟨_, rfl, a, _, _, _, rfl, rfl, SqT.of ha, rfl, aL, _, rfl, .inl (sL _), rfl, by simp [flatV], _, rfl, ifT (by decide +kernel) ?_⟩
    exact ⟨_, rfl, a, _, _, _, rfl, rfl, SqT.of ha, rfl, _, rfl, _, _, rfl, rfl, _, _, _, rfl, hok.1, hok.2, q⟩
  | call n =>
    refine ⟨_, rfl, a, _, [.int n], 1, rfl, ha, _, rfl, ifF rfl ?_⟩
    refine ⟨_, rfl, a, _, [.int n], 2, rfl, ha, _, rfl, ifF rfl ?_⟩
    refine ⟨_, rfl, a, _, _, _, rfl, rfl, SqT.of ha, rfl, rfl, _, rfl, ifF (by decide +kernel) ?_⟩
    refine ⟨_, rfl, a, _, _, _, rfl, rfl, SqT.of ha, rfl, rfl, _, rfl, ifF (by decide +kernel) ?_⟩
    refine ⟨_, rfl, a, _, _, _, rfl, rfl, SqT.of ha, rfl, aL, _, rfl, .inl (sL _), rfl, by simp [flatV], _, rfl, ifF (by decide +kernel) ?_⟩
    exact ⟨_, rfl, a, _, _, _, rfl, rfl, SqT.of ha, rfl, aC, _, rfl, .inl (sC _), rfl, by simp [flatV], _, rfl, ifT (by decide +kernel) ⟨_, rfl, a, _, _, _, rfl, rfl, SqT.of ha, rfl, _, rfl, _, _, rfl, rfl, _, _, _, rfl, hok.1, by have := hok.2; omega, q⟩⟩
  | tail n =>
    refine ⟨_, rfl, a, _, [.int n], 1, rfl, ha, _, rfl, ifF rfl ?_⟩
    refine ⟨_, rfl, a, _, [.int n], 2, rfl, ha, _, rfl, ifF rfl ?_⟩
    refine ⟨_, rfl, a, _, _, _, rfl, rfl, SqT.of ha, rfl, rfl, _, rfl, ifF (by decide +kernel) ?_⟩
    refine ⟨_, rfl, a, _, _, _, rfl, rfl, SqT.of ha, rfl, rfl, _, rfl, ifF (by decide +kernel) ?_⟩
    refine ⟨_, rfl, a, _, _, _, rfl, rfl, SqT.of ha, rfl, aL, _, rfl, .inl (sL _), rfl, by simp [flatV], _, rfl, ifF (by decide +kernel) ?_⟩
    exact ⟨_, rfl, a, _, _, _, rfl, rfl, SqT.of ha, rfl, aC, _, rfl, .inl (sC _), rfl, by simp [flatV], _, rfl, ifT (by decide +kernel) ⟨_, rfl, a, _, _, _, rfl, rfl, SqT.of ha, rfl, _, rfl, _, _, rfl, rfl, _, _, _, rfl, hok.1, by have := hok.2; omega, q⟩⟩
end

end M10
set_option Elab.async false
set_option linter.all false
set_option maxRecDepth 100000
set_option maxHeartbeats 4000000
namespace M10
open PySem PySem.Spec PyProof.Rows L2 Evl
/-! ### enumerate over a tuple; zip of a tuple and a list -/
theorem meets_enum1 {v : Value} {o : Obj} {Hp0 : Heap → Prop} (B : Begins v o Hp0) :
    Meets (Builtin.«enumerate.__new__» ⟨[.type "enumerate", v], []⟩) (fun _ R s => Hp0 s.heap ∧
      R (.ok (.ret (.ref (s.heap.push o).objs.size))) { s with heap := (s.heap.push o).push { cls := .type "enumerate", data := .fields #[.none, .bool false, .ref s.heap.objs.size, rawInt 0, .none, .none] } }) :=
  .of_wp fun prog w A R s hh => by
    obtain ⟨h0, gs, dd, tk, ys⟩ := s
    obtain ⟨hB, hR⟩ := hh
    have hsub := sub_enumerate
    have go1 : ∀ {A' : Around} {E : Value → Shared → Prop} {Q : Value → Shared → Prop}, Q (.ref h0.objs.size) ⟨h0.push o, gs, dd, tk, ys⟩ → wpAny (model prog w) A' (pyIter v) Q E ⟨h0, gs, dd, tk, ys⟩ :=
      fun q => B.iter prog w _ _ ⟨h0, gs, dd, tk, ys⟩ _ hB q
    wp_walk using go1
    refine wpAny_stack_any fun st => wpAny_pure ?_
    split
    · rename_i c _ _ _ _ _
      cases (c == Value.type "enumerate")
      · wp_walk using go1
        exact ⟨_, rfl, hR⟩
      · wp_walk using go1
        exact ⟨_, rfl, hR⟩
    · wp_walk using go1
      exact ⟨_, rfl, hR⟩
theorem call_enum1 {prog : Program} {w : World} {A : Around} {E : Value → Shared → Prop} {s : Shared} {v : Value} {o : Obj} {Hp0 : Heap → Prop} {Q : Value → Shared → Prop} (B : Begins v o Hp0) (h1 : Hp0 s.heap)
    (h : ∀ g : Heap, IsEnum g (s.heap.objs.size + 1) s.heap.objs.size 0 .none → g.get? s.heap.objs.size = some o → g.objs.size = s.heap.objs.size + 2 → (∀ b u, s.heap.get? b = some u → g.get? b = some u) → Q (.ref (s.heap.objs.size + 1)) { s with heap := g }) :
    wpAny (model prog w) A (call (.type "enumerate") [v]) Q E s := by
  refine callType_new F.called_enumerate (by decide) (F.typeCall_enumerate_1 _) (F.newCall_enumerate_1 _) (fun obj => F.args_object_init_2 obj _) F.entry_enumerate_new (meets_enum1 B) ⟨h1, ?_⟩
  have hz : (s.heap.push o).objs.size = s.heap.objs.size + 1 := Heap.size_push ..
  show _ ∧ _
  have he : IsEnum ((s.heap.push o).push { cls := .type "enumerate", data := .fields #[.none, .bool false, .ref s.heap.objs.size, rawInt 0, .none, .none] }) (s.heap.push o).objs.size s.heap.objs.size 0 .none := Heap.get?_push_size _ rfl
  rw [hz] at he ⊢
  exact ⟨⟨_, he, rfl⟩, h _ he (Heap.get?_push_of_some _ (Heap.get?_push_size _ B.free)) (by rw [Heap.size_push, hz]) fun b u x => Heap.get?_push_of_some _ (Heap.get?_push_of_some _ x)⟩
/-- the tuple at a, each item in a new pair -/
def IteT (K : PySem.W.Frag) (a : Addr) : It :=
  ⟨fun i H => ∃ (xs : List V) (x : V), SqT K H a xs ∧ xs[i]? = some x, fun i H v H' => ∃ T x, v = .ref T ∧ H T = none ∧ H' = upd H T (.tup [.int (i : Nat), x]) ∧ ∀ xs, SqT K H a xs → xs[i]? = some x, fun i H => ∃ xs : List V, SqT K H a xs ∧ xs.length ≤ i⟩
theorem turn_enumT {P : Program} {w : World} {K : PySem.W.Frag} {elts : List Expr} {kk : Nat} {tpos : Pos} {a e it : Addr} (hei : e ≠ it) (hea : e ≠ a) (hai : a ≠ it) :
    Turn P w K (.Tuple elts kk tpos) (IteT K a) [e, it] e (fun i h => (∃ old, IsEnum h e it ((i : Nat) : Int) old) ∧ h.IsTupleIter it a i) where
  mem := by simp
  obj := fun i h st b hb => by
    obtain ⟨⟨old, he⟩, ⟨o, ho, hc, hd⟩⟩ := st
    rcases List.mem_cons.mp hb with z | z
    · rw [z]; exact ⟨_, he, fun v q => nomatch q⟩
    · rw [List.mem_singleton.mp z]; exact ⟨o, ho, fun v q => by rw [hd] at q; cases q⟩
  keep := fun i h h' st k => let ⟨⟨old, he⟩, hi⟩ := st; ⟨⟨old, k e (by simp) _ he⟩, hi.at fun o q => k it (by simp) o q⟩
  item := by
    intro X hP hw hK hc i pins s σ H E I hf st hg
    subst hP hw hK
    obtain ⟨⟨old, he⟩, hit⟩ := st
    obtain ⟨xs, x, hq, hx⟩ := hg
    obtain ⟨its, rv, pl, hz⟩ := I.tuple hq
    obtain ⟨u, hu, ru⟩ := rv.get hx
    have hiu : i < its.toArray.size := by
      rw [List.size_toArray]
      exact (List.getElem?_eq_some_iff.mp hu).1
    have lte : e < s.heap.objs.size := Heap.lt_size he
    have lti : it < s.heap.objs.size := by obtain ⟨_, q, _⟩ := hit; exact Heap.lt_size q
    have hIT : s.heap.IsTuple a its.toArray := pl
    refine wpAny_pyNext_enum_itemC (Draws.tuple (A := X.A.in1) (I.ok.hd hc) it a hai its.toArray) he ⟨hit, hIT⟩ hiu hei (fun hm => ?_) fun y g tk hy ho hst' hT hsz hk => ?_
    · rcases List.mem_cons.mp hm with z | z
      · exact hei z
      · exact hea (List.mem_singleton.mp z)
    have hyu : y = u := by
      have h1 : its[i]? = some y := by simpa using hy
      rw [hu] at h1
      exact (Option.some.inj h1).symm
    subst hyu
    refine ⟨_, rfl, wpAny_letOwnedTupleGo_enum (s := { s with heap := g, toks := tk + 1 }) ho fun g2 he2 sb => ?_⟩
    have hT2 : g2.get? s.heap.objs.size = some { cls := .type "tuple", data := .seq #[.int i tk, y] } := (sb.2 _ (Nat.ne_of_gt lte)).trans hT
    have onew : ObjOk X.prog X.w (upd H s.heap.objs.size (.tup [.int (i : Nat), x])) g2 s.heap.objs.size (.tup [.int (i : Nat), x]) :=
      ⟨z2, [.int i tk, y], .cons ⟨_, rfl⟩ (.cons ru .nil), ⟨_, hT2, rfl, _, rfl⟩⟩
    have J : Inv X pins σ (upd H s.heap.objs.size (.tup [.int (i : Nat), x])) { s with heap := g2, toks := tk + 1 } :=
      I.turnedNew (ch := [e, it]) (fun b ob hb q => (sb.2 b (fun z => hb (by simp [z]))).trans (hk b ob (fun z => hb (by simp [z])) (fun z => hb (by simp [z])) q)) hf (Nat.le_refl _) onew
    refine ⟨.ref s.heap.objs.size, _, J, rfl, ⟨_, x, rfl, I.hok.fresh (Nat.le_refl _), rfl, fun ys hy => by rw [I.tuple_inj hy hq]; exact hx⟩, ⟨⟨y, ?_⟩, hst'.1.at fun o q => (sb.2 it (Ne.symm hei)).trans q⟩, fun b hb => ?_⟩
    · have e1 : ((i + 1 : Nat) : Int) = (i : Int) + 1 := by omega
      rw [e1]
      exact he2
    · have hb' : b < s.heap.objs.size := by
        rcases List.mem_cons.mp hb with z | z
        · rw [z]; exact lte
        · rw [List.mem_singleton.mp z]; exact lti
      rw [upd_ne (Nat.ne_of_lt hb')]
      exact (hf b hb).1
  done := by
    intro X hP hw hK hc i pins s σ H E I hf st hg
    subst hP hw hK
    obtain ⟨⟨old, he⟩, hit⟩ := st
    obtain ⟨xs, hq, hx⟩ := hg
    obtain ⟨its, rv, pl, hz⟩ := I.tuple hq
    obtain ⟨f0, f1, f2, f3, f4, f5⟩ := hf it (by simp)
    have hl := rv.length
    have hIT : s.heap.IsTuple a its.toArray := pl
    have hT : s.TypeIs (.ref e) "enumerate" := ⟨_, he, rfl⟩
    unfold pyNext
    refine wpAny_bind (wpAny_attempt (wpAny_callSpecial?_slot (name := Str.ofString "__next__") hT F.slot_enumerate_next (wpAny_call_entry F.slot_enumerate_next hT F.entry_enumerate_next ?_ (F.args_enumerate_next_1 _))))
    show wpAny _ _ (field (.ref e) 2 >>= _) _ _ _
    refine wpAny_bind (wpAny_field he rfl (x := .ref it) rfl ?_)
    refine wpAny_bind (wpAny_nextOf_tuple_end (A := X.A.in1) (I.ok.hd hc) hit hIT (by rw [List.getElem?_toArray, List.getElem?_eq_none_iff]; omega) fun g x hext hst => ?_)
    obtain ⟨o, ho, hcl⟩ := hst
    refine wpAny_bind (wpAny_isInstance (T := "StopIteration") (b := true) ⟨o, ho, hcl⟩ isSubtype_stop ?_)
    exact wpAny_pure ⟨rfl, I.turned (t' := s.toks) (fun b o hb q => hext b o hb q) f0 f1 f3 f4 f5⟩
  self := fun A i s Q E st h => let ⟨⟨_, he⟩, _⟩ := st; wpAny_pyIter_enum he h
def iEnumT (K : PySem.W.Frag) (ta : TA) : TI := fun σ H R => ta σ H fun vs H1 => ∃ a xs, vs = [.ref a] ∧ SqT K H1 a xs ∧ R (IteT K a) H1
theorem pi_enumT {X : Cx} {e : Expr} {ta : TA} {p pos tpos : Pos} {elts : List Expr} {kk : Nat} (hg : Gl X "enumerate") (hm : X.mg "enumerate" = none) (ha : PA X [e] ta) (hs : starEach [e] X.env = [(false, eval e X.env)] := by rfl) :
    PI X (.Tuple elts kk tpos) (.Call (.Name "enumerate" p) [e] [] pos) (iEnumT X.K ta) := by
  refine ⟨fun pins s σ H R I h => ?_⟩
  refine Call_ (ld_blt I hg hm boot_enumerate (PyProof.Rows.callWith_type1 (thn (ha.run pos pins s σ H _ I h) fun us s1 ⟨vs, H1, I1, r1, q1⟩ => ?_) hs rfl))
  obtain ⟨a, xs, rfl, hq, q⟩ := q1
  obtain ⟨u, rfl, ru⟩ := vals1 r1
  obtain rfl : u = Value.ref a := ru
  obtain ⟨its, rv, pl, hz⟩ := I1.tuple hq
  have hIT : s1.heap.IsTuple a its.toArray := pl
  have hal : a < s1.heap.objs.size := by obtain ⟨_, q, _⟩ := hIT; exact Heap.lt_size q
  refine call_enum1 (begins_tuple a its.toArray) hIT fun g he hit hsz hk => wpAny_pyIter_enum he ?_
  have I2 : Inv X pins σ H1 { s1 with heap := g } := I1.kept (t' := s1.toks) hk
  refine ⟨s1.heap.objs.size + 1, [s1.heap.objs.size + 1, s1.heap.objs.size], _, _, H1, rfl, I2, turn_enumT (a := a) (Nat.succ_ne_self _) (Nat.ne_of_gt (Nat.lt_succ_of_lt hal)) (Nat.ne_of_lt hal), ⟨⟨.none, he⟩, ⟨_, hit, rfl, rfl⟩⟩, fun b hb => ?_, q⟩
  have hle : s1.heap.objs.size ≤ b := by
    rcases List.mem_cons.mp hb with z | z
    · rw [z]; exact Nat.le_succ _
    · rw [List.mem_singleton.mp z]; exact Nat.le_refl _
  exact I1.fpOk hle (I1.hok.fresh hle)
theorem walk_enumT {K : PySem.W.Frag} {a : Addr} {xs : List V} : Walk (IteT K a) xs.length (fun H => SqT K H a xs) (YPair (fun i => some (.int (i : Nat))) (fun i => xs[i]?)) := by
  refine ⟨fun i _ hi q => ⟨xs, xs[i], q, by simp [hi]⟩, fun _ q => ⟨xs, q, Nat.le_refl _⟩, fun i H v H' _ q y => ?_⟩
  obtain ⟨T, x, h1, h2, h3, h4⟩ := y
  exact ⟨T, .int (i : Nat), x, h1, h2, h3, rfl, h4 xs q⟩

end M10
set_option Elab.async false
set_option linter.all false
set_option maxRecDepth 100000
set_option maxHeartbeats 4000000
namespace M10
open PySem PySem.Spec PyProof.Rows L2 Evl
/-! ### zip of a tuple and a list -/
def ItzM (K : PySem.W.Frag) (a b : Addr) : It :=
  ⟨fun i H => ∃ (xs ys : List V) (x y : V), SqT K H a xs ∧ SqL K H b ys ∧ xs[i]? = some x ∧ ys[i]? = some y,
    fun i H v H' => ∃ T x y, v = .ref T ∧ H T = none ∧ H' = upd H T (.tup [x, y]) ∧ (∀ xs, SqT K H a xs → xs[i]? = some x) ∧ ∀ ys, SqL K H b ys → ys[i]? = some y,
    fun i H => ∃ xs ys : List V, SqT K H a xs ∧ SqL K H b ys ∧ i ≤ xs.length ∧ i ≤ ys.length ∧ (i = xs.length ∨ i = ys.length)⟩
theorem turn_zipM {P : Program} {w : World} {K : PySem.W.Frag} {elts : List Expr} {kk : Nat} {tpos : Pos} {a b z TI TO i1 i2 : Addr} (S : ZipSep2 z TI TO i1 i2 [i1, a] [i2, b]) (ha : a ≠ i1) (hb : b ≠ i2) :
    Turn P w K (.Tuple elts kk tpos) (ItzM K a b) [z, TI, TO, i1, i2] z (fun i h => IsZip h z TI TO .none ∧ IsTupOf2 h TI (.ref i1) (.ref i2) ∧ (∃ x y, IsTupOf2 h TO x y) ∧ h.IsTupleIter i1 a i ∧ h.IsListIter i2 b i) where
  mem := by simp
  obj := fun i h st c hc => by
    obtain ⟨hz, hTI, ⟨x, y, hTO⟩, ⟨o1, e1, _, d1⟩, ⟨o2, e2, _, d2⟩⟩ := st
    have five : c = z ∨ c = TI ∨ c = TO ∨ c = i1 ∨ c = i2 := by simpa using hc
    rcases five with q | q | q | q | q
    · rw [q]; exact ⟨_, hz, nofun⟩
    · rw [q]; exact ⟨_, hTI, nofun⟩
    · rw [q]; exact ⟨_, hTO, nofun⟩
    · rw [q]; exact ⟨o1, e1, by rw [d1]; exact nofun⟩
    · rw [q]; exact ⟨o2, e2, by rw [d2]; exact nofun⟩
  keep := fun i h h' st k => by
    obtain ⟨hz, hTI, ⟨x, y, hTO⟩, h1, h2⟩ := st
    refine ⟨k z (by simp) _ hz, k TI (by simp) _ hTI, ⟨x, y, k TO (by simp) _ hTO⟩, ?_, ?_⟩
    · exact h1.at fun o q => k i1 (by simp) o q
    · exact h2.at fun o q => k i2 (by simp) o q
  item := by
    intro X hP hw hK hc i pins s σ H E I hf st hg
    subst hP hw hK
    obtain ⟨hz, hTI, ⟨x0, y0, hTO⟩, h1, h2⟩ := st
    obtain ⟨xs, ys, x, y, hqx, hqy, hx, hy⟩ := hg
    obtain ⟨it1, rv1, pl1, _⟩ := I.tuple hqx
    obtain ⟨it2, rv2, pl2, _⟩ := I.list hqy
    obtain ⟨u1, hu1, ru1⟩ := rv1.get hx
    obtain ⟨u2, hu2, ru2⟩ := rv2.get hy
    have ltz : z < s.heap.objs.size := Heap.lt_size hz
    have k1 : i < it1.toArray.size := by
      rw [List.size_toArray]
      exact (List.getElem?_eq_some_iff.mp hu1).1
    have k2 : i < it2.toArray.size := by
      rw [List.size_toArray]
      exact (List.getElem?_eq_some_iff.mp hu2).1
    have T1 : s.heap.IsTuple a it1.toArray := pl1
    refine wpAny_pyNext_zipD2_item S (Draws.tuple (A := X.A.in1) (I.ok.hd hc) i1 a ha it1.toArray) (Draws.list (A := X.A.in1) (I.ok.hd hc) i2 b hb it2.toArray) hz hTI hTO ⟨h1, T1⟩ ⟨h2, pl2.isList⟩ k1 k2 fun v1 v2 g tk p1 p2 z' TO' st1 st2 hT hsz hk => ?_
    have ev1 : v1 = u1 := by
      have q : it1[i]? = some v1 := by simpa using p1
      rw [hu1] at q
      exact (Option.some.inj q).symm
    have ev2 : v2 = u2 := by
      have q : it2[i]? = some v2 := by simpa using p2
      rw [hu2] at q
      exact (Option.some.inj q).symm
    subst ev1 ev2
    refine ⟨_, rfl, wpAny_letOwnedTupleGo_zip (s := { s with heap := g, toks := tk }) z' fun g2 z2' sb => ?_⟩
    have hT2 : g2.get? s.heap.objs.size = some { cls := .type "tuple", data := .seq #[v1, v2] } := (sb.2 _ (Nat.ne_of_gt ltz)).trans hT
    have onew : ObjOk X.prog X.w (upd H s.heap.objs.size (.tup [x, y])) g2 s.heap.objs.size (.tup [x, y]) := ⟨z2, [v1, v2], .cons ru1 (.cons ru2 .nil), ⟨_, hT2, rfl, _, rfl⟩⟩
    have kk2 : ∀ c o, c ∉ [z, TI, TO, i1, i2] → s.heap.get? c = some o → g2.get? c = some o := fun c o hcn q => by
      have n1 : c ≠ z := fun e => hcn (by simp [e])
      have n2 : c ≠ TO := fun e => hcn (by simp [e])
      have n3 : c ≠ i1 := fun e => hcn (by simp [e])
      have n4 : c ≠ i2 := fun e => hcn (by simp [e])
      exact (sb.2 c n1).trans (hk c o n1 n2 n3 n4 q)
    have J : Inv X pins σ (upd H s.heap.objs.size (.tup [x, y])) { s with heap := g2, toks := tk } := I.turnedNew (t' := tk) (ch := [z, TI, TO, i1, i2]) kk2 hf (Nat.le_refl _) onew
    have a1 : i1 ≠ z := fun e => S.zf1 (by rw [← e]; exact S.mem1)
    have a2 : i2 ≠ z := fun e => S.zf2 (by rw [← e]; exact S.mem2)
    refine ⟨.ref s.heap.objs.size, _, J, rfl, ⟨_, x, y, rfl, I.hok.fresh (Nat.le_refl _), rfl, fun l hl => by rw [I.tuple_inj hl hqx]; exact hx, fun l hl => by rw [I.list_inj hl hqy]; exact hy⟩, ⟨z2', ?_, ⟨v1, v2, ?_⟩, ?_, ?_⟩, fun c hcm => ?_⟩
    · exact (sb.2 _ S.TIz).trans (hk _ _ S.TIz S.TITO S.TIi1 S.TIi2 hTI)
    · exact (sb.2 _ S.TOz).trans TO'
    · exact st1.1.at fun o q => (sb.2 _ a1).trans q
    · exact st2.1.at fun o q => (sb.2 _ a2).trans q
    · have hlt : c < s.heap.objs.size := by
        have five : c = z ∨ c = TI ∨ c = TO ∨ c = i1 ∨ c = i2 := by simpa using hcm
        rcases five with q | q | q | q | q
        · rw [q]; exact ltz
        · rw [q]; exact Heap.lt_size hTI
        · rw [q]; exact Heap.lt_size hTO
        · rw [q]; obtain ⟨_, e1, _⟩ := h1; exact Heap.lt_size e1
        · rw [q]; obtain ⟨_, e2, _⟩ := h2; exact Heap.lt_size e2
      rw [upd_ne (Nat.ne_of_lt hlt)]
      exact (hf c hcm).1
  done := by
    intro X hP hw hK hc i pins s σ H E I hf st hg
    subst hP hw hK
    obtain ⟨hz, hTI, ⟨x0, y0, hTO⟩, h1, h2⟩ := st
    obtain ⟨xs, ys, hqx, hqy, l1, l2, hend⟩ := hg
    obtain ⟨it1, rv1, pl1, _⟩ := I.tuple hqx
    obtain ⟨it2, rv2, pl2, _⟩ := I.list hqy
    have m1 := rv1.length
    have m2 := rv2.length
    have T1 : s.heap.IsTuple a it1.toArray := pl1
    refine wpAny_pyNext_zipD2_end S (Draws.tuple (A := X.A.in1) (I.ok.hd hc) i1 a ha it1.toArray) (Draws.list (A := X.A.in1) (I.ok.hd hc) i2 b hb it2.toArray) hz hTI hTO ⟨h1, T1⟩ ⟨h2, pl2.isList⟩ (by rw [List.size_toArray]; omega) (by rw [List.size_toArray]; omega) (by rw [List.size_toArray, List.size_toArray]; omega) fun g tk hk => ⟨rfl, ?_⟩
    refine I.turnedL (t' := tk) (ch := [z, TI, TO, i1, i2]) (fun c o hcn q => ?_) hf
    exact hk c o (fun e => hcn (by simp [e])) (fun e => hcn (by simp [e])) (fun e => hcn (by simp [e])) (fun e => hcn (by simp [e])) q
  self := fun A i s Q E st h => wpAny_pyIter_zip st.1 h
def iZipM (K : PySem.W.Frag) (ta : TA) : TI := fun σ H R => ta σ H fun vs H1 => ∃ a b xs ys, vs = [.ref a, .ref b] ∧ SqT K H1 a xs ∧ SqL K H1 b ys ∧ R (ItzM K a b) H1
theorem pi_zipM {X : Cx} {e e2 : Expr} {ta : TA} {p pos tpos : Pos} {elts : List Expr} {kk : Nat} (hg : Gl X "zip") (hm : X.mg "zip" = none) (ha : PA X [e, e2] ta)
    (hs : starEach [e, e2] X.env = (false, eval e X.env) :: starEach [e2] X.env := by rfl) (hpl : (backTo pos (starEach [e2] X.env)).any (·.1) = false := by rfl) : PI X (.Tuple elts kk tpos) (.Call (.Name "zip" p) [e, e2] [] pos) (iZipM X.K ta) := by
  refine ⟨fun pins s σ H R I h => ?_⟩
  refine Call_ (ld_blt I hg hm PyProof.Rows.boot_zip (PyProof.Rows.callWith_type1 (thn (ha.run pos pins s σ H _ I h) fun us s1 ⟨vs, H1, I1, r1, q1⟩ => ?_) hs hpl))
  obtain ⟨a, b, xs, ys, rfl, hqx, hqy, q⟩ := q1
  obtain ⟨u1, u2, rfl, ra, rb⟩ := vals2 r1
  obtain rfl : u1 = Value.ref a := ra
  obtain rfl : u2 = Value.ref b := rb
  obtain ⟨it1, rv1, pl1, _⟩ := I1.tuple hqx
  obtain ⟨it2, rv2, pl2, _⟩ := I1.list hqy
  have T1 : s1.heap.IsTuple a it1.toArray := pl1
  have la : a < s1.heap.objs.size := by obtain ⟨_, q, _⟩ := T1; exact Heap.lt_size q
  have lb : b < s1.heap.objs.size := pl2.lt
  refine zip_begins2 (begins_tuple a it1.toArray) (begins_list b it2.toArray) T1 pl2.isList fun g hz hTI hTO h1 h2 hsz hk => wpAny_pyIter_zip hz ?_
  have I2 : Inv X pins σ H1 { s1 with heap := g } := I1.kept (t' := s1.toks) hk
  have SS := zip_sep2 (N := s1.heap.objs.size) (fp1 := [a]) (fp2 := [b]) (fun c hcm => by rw [List.mem_singleton.mp hcm]; exact la) (fun c hcm => by rw [List.mem_singleton.mp hcm]; exact lb)
  refine ⟨s1.heap.objs.size + 4, [s1.heap.objs.size + 4, s1.heap.objs.size + 2, s1.heap.objs.size + 3, s1.heap.objs.size, s1.heap.objs.size + 1], _, _, H1, rfl, I2, turn_zipM SS (Nat.ne_of_lt la) (Nat.ne_of_lt (Nat.lt_succ_of_lt lb)), ⟨hz, hTI, ⟨_, _, hTO⟩, ⟨_, h1, rfl, rfl⟩, ⟨_, h2, rfl, rfl⟩⟩, fun c hcm => ?_, q⟩
  have hle : s1.heap.objs.size ≤ c := by
    have five : c = s1.heap.objs.size + 4 ∨ c = s1.heap.objs.size + 2 ∨ c = s1.heap.objs.size + 3 ∨ c = s1.heap.objs.size ∨ c = s1.heap.objs.size + 1 := by simpa using hcm
    rcases five with q | q | q | q | q
    · rw [q]; exact Nat.le_add_right _ _
    · rw [q]; exact Nat.le_add_right _ _
    · rw [q]; exact Nat.le_add_right _ _
    · rw [q]; exact Nat.le_refl _
    · rw [q]; exact Nat.le_add_right _ _
  exact I1.fpOk hle (I1.hok.fresh hle)
theorem walk_zipM {K : PySem.W.Frag} {a b : Addr} {xs ys : List V} {n : Nat} (h1 : n = xs.length) (h2 : n = ys.length) : Walk (ItzM K a b) n (fun H => SqT K H a xs ∧ SqL K H b ys) (YPair (fun i => xs[i]?) (fun i => ys[i]?)) := by
  refine ⟨fun i _ hi q => ?_, fun _ q => ⟨xs, ys, q.1, q.2, by omega, by omega, by omega⟩, fun i H v H' _ q y => ?_⟩
  · have l1 : i < xs.length := by omega
    have l2 : i < ys.length := by omega
    exact ⟨xs, ys, xs[i], ys[i], q.1, q.2, List.getElem?_eq_getElem l1, List.getElem?_eq_getElem l2⟩
  · obtain ⟨T, x, z, e1, e2, e3, e4, e5⟩ := y
    exact ⟨T, x, z, e1, e2, e3, e4 xs q.1, e5 ys q.2⟩

end M10
set_option Elab.async false
set_option linter.all false
set_option maxRecDepth 100000
set_option maxHeartbeats 4000000
namespace M10
open PySem PySem.Spec PyProof.Rows L2 Evl
/-! ### defs that make generators: their code object and its table -/
def DdC (K : PySem.W.Frag) (mg : Str → Option Value) (x : Str) (st : Stmt) (ps : List Str) (c : Addr) : Prop := ∃ f fd, L2.Fun K x x st f fd ∧ fd.code = .ref c ∧ mg x = some (.ref f) ∧ Binds K fd ps []
section
variable {P : Program} {w : World} {K : PySem.W.Frag} {mg : Str → Option Value} {base : Heap} {CX : CXT} {x : Str} {sp : Sp} {k : Nat}
theorem DdC.okG {st : Stmt} {N ps : List Str} {c : Addr} (D : DdC K mg x st ps c) (S : FnScope N ps (defScope st)) (len : ∀ vs H Q E, sp vs H Q E → vs.length = ps.length)
    (hbody : ∀ (f : Addr) (A : Around) (outer : List Env) (s : Shared) (H : Hp) (vs : List V) (Q : VK) (E : XK), Room k (A.deeper (envOfC x (defScope st) s.heap.objs.size f (.ref c))) → sp vs H Q E →
      ∃ t, PSs (cxOf CX P w K mg base N x (defScope st) f (.ref c) A outer s H E) (defBody st) t ∧ t { nx := fun _ H' => Q .non H', rt := Q } (start N vs) H) : Dn P w K mg base CX (k + 1) x sp := by
  obtain ⟨f, fd, F, hc, g, b⟩ := D
  have hkp := F.kp
  obtain ⟨oc, od, kV, doc, pm, an, cdv, ct, osl, rfl, lk, hcd⟩ := F.ex
  have e : cdv = .ref c := hc
  subst e
  exact ⟨f, _, ps, fn_of lk hcd S len fun A outer s H vs Q E hr h => hbody f A outer s H vs Q E hr h, g, hkp, b⟩
theorem DdC.ok {st : Stmt} {N ps : List Str} {c : Addr} (D : DdC K mg x st ps c) (S : FnScope N ps (defScope st)) (len : ∀ vs H Q E, sp vs H Q E → vs.length = ps.length)
    (hbody : ∀ (f : Addr) (A : Around) (outer : List Env) (s : Shared) (H : Hp) (vs : List V) (Q : VK) (E : XK), Room k (A.deeper (envOfC x (defScope st) s.heap.objs.size f (.ref c))) → sp vs H Q E →
      ∃ t, PSs (cxOf L2.CX0 P w K mg base N x (defScope st) f (.ref c) A outer s H E).nox (defBody st) t ∧ t { nx := fun _ H' => Q .non H', rt := Q } (start N vs) H) : Dn P w K mg base L2.CX0 (k + 1) x sp :=
  D.okG S len fun f A outer s H vs Q E hr h => by
    obtain ⟨t, h1, h2⟩ := hbody f A outer s H vs Q E hr h
    exact ⟨t, h1.nox, h2⟩
end
theorem hfr_of {sc osc : Scope} (h : (sc.names.all fun y => !(y.2 == NameKind.free) || (osc.names.lookup y.1 == some NameKind.cell)) = true) : ∀ y ∈ sc.names, y.2 = .free → osc.names.lookup y.1 = some .cell := fun y hy hf => by
  have h1 := List.all_eq_true.mp h y hy
  rw [hf] at h1
  simpa using h1
/-- tables at Pt, their entries not looked at -/
def TGs (H : Hp) (Pt : List Addr) : Prop := ∀ p ∈ Pt, GxR.TabG H p
/-- but for the tables at Pt all is kept -/
def TbX (Pt : List Addr) (H H' : Hp) : Prop := TGs H' Pt ∧ ∀ b o, b ∉ Pt → H b = some o → H' b = some o
theorem TbX.of {Pc : Addr} {Pt : List Addr} {H H' : Hp} (hp : Pc ∈ Pt) (t : TGs H Pt) (h : GxR.Tabbed Pc H H') : TbX Pt H H' := by
  refine ⟨fun p hq => ?_, fun b o hb e => by rw [h.2 b (fun z => hb (by rw [z]; exact hp))]; exact e⟩
  by_cases z : p = Pc
  · rw [z]
    exact h.1
  · obtain ⟨ps, h1, h2⟩ := t p hq
    exact ⟨ps, by rw [h.2 p z]; exact h1, h2⟩
theorem TbX.trans {Pt : List Addr} {H H1 H2 : Hp} (a : TbX Pt H H1) (b : TbX Pt H1 H2) : TbX Pt H H2 := ⟨b.1, fun c o hc e => b.2 c o hc (a.2 c o hc e)⟩
theorem TGs.ex {Pt : List Addr} {H H' : Hp} (t : TGs H Pt) (b : Ex H H') : TGs H' Pt := fun p hp => by
  obtain ⟨ps, h1, h2⟩ := t p hp
  exact ⟨ps, b _ _ h1, h2⟩
theorem TbX.ex {Pt : List Addr} {H H1 H2 : Hp} (a : TbX Pt H H1) (b : Ex H1 H2) : TbX Pt H H2 := ⟨a.1.ex b, fun c o hc e => b _ _ (a.2 c o hc e)⟩
theorem TbX.refl {Pt : List Addr} {H : Hp} (h : TGs H Pt) : TbX Pt H H := ⟨h, fun _ _ _ e => e⟩
theorem TbX.tx {Pt : List Addr} {H H' : Hp} (t : TGs H Pt) (h : TbX Pt H H') : Tx H H' := fun a xs e => h.2 a _ (fun z => by
  obtain ⟨ps, h1, _⟩ := t a z
  rw [h1] at e
  cases e) e
def spNLates (Pt : List Addr) : Sp := fun vs H Q _ => ∃ (m : Int) (a : Addr) (ns : List Int), vs = [.int m, .ref a] ∧ H a = some (.tup (ns.map V.int)) ∧ (ns.length : Int) = m ∧ (∀ n ∈ ns, 0 ≤ n ∧ n ≤ 1000000) ∧ TGs H Pt ∧ ∀ H', TbX Pt H H' → Q .non H'
section
variable {P : Program} {w : World} {K : PySem.W.Frag} {mg : Str → Option Value} {base : Heap}
theorem sc_need_lates : FnScope ["many", "lates"] ["many", "lates"] (defScope s_need_lates) := ⟨rfl, rfl, rfl, by decide +kernel, rfl, by decide +kernel, by decide +kernel⟩
theorem ok_need_lates {c Pc : Addr} {Pt : List Addr} (hPc : Pc ∈ Pt) (D : DdC K mg "need_lates" s_need_lates ["many", "lates"] c) (TB : GxR.TabB base mg c Pc) (D2 : Dd K mg "is_in" s_is_in ["value", "least", "most"]) (T : Tb K mg) : Dn P w K mg base L2.CX0 4 "need_lates" (spNLates Pt) := by
  refine D.ok sc_need_lates (fun vs H Q E h => by obtain ⟨m, a, ns, rfl, _⟩ := h; rfl) (fun f A outer s H vs Q E hr h => ?_)
  obtain ⟨m, a, ns, rfl, ha, hl, hn, hT, q⟩ := h
  refine ⟨_, (pss_one (ps_if (PW.pt (pw_or (pt_not (pt_val (pcb call_isi T.isinstance (pa_cons (pv 1) (pa_cons (pe_ty (n := "tuple") T.tuple) pa_nil))))) (pw_or (pt_cmpR op_ne (pcb call_len_seq T.len (pa_cons (pv 1) pa_nil)) (pv 0) (nomark _)) (pw_or1 (pt_not (pt_val (pe_allT hr TB rfl rfl T.all (pv 1) rfl rfl (by decide +kernel) rfl rfl (hfr_of (osc := defScope s_need_lates) (by decide +kernel)) (fun _ => rfl)))))))) (pss_one ps_never) pss_nil)), ?_⟩
  refine ⟨_, rfl, _, _, _, _, true, rfl, .ty "tuple", .base (.tup ha), rfl, _, rfl, ifF rfl ?_⟩
  refine ⟨_, rfl, a, _, rfl, .inr (SqT.of ha), _, rfl, rfl, ?_⟩
  have e1 : decide (V.int ((ns.map V.int).length : Nat) = V.int m) = true := decide_eq_true (by rw [List.length_map, hl])
  refine ⟨_, rfl, ifF (by rw [e1] <;> rfl) ?_⟩
  refine ⟨_, rfl, a, _, rfl, ha, hT _ hPc, fun y hy => ?_, fun H2 hT2 => ⟨_, rfl, ifF rfl (q _ (TbX.of hPc hT hT2))⟩⟩
  obtain ⟨i, hi, rfl⟩ := List.mem_map.mp hy
  obtain ⟨n0, n1⟩ := hn i hi
  intro R ok hD hsc hx hfr htup
  have kk : ∀ {nm : Str} {kd : NameKind}, R.env.scope.names.lookup nm = some kd → R.env.kindOf nm = some kd := fun h => h
  refine rp_is_in ok D2 T (kk (by rw [hsc]; rfl)) (ra_cons ok (rp_loc ok (by rw [hsc]; rfl) hx) (ra_cons ok rp_int (ra_cons ok (rp_glob ok (kk (by rw [hsc]; rfl)) T.MOST_NUMBER) ra_nil))) n0 n1 ?_
  rw [hD]
  have := hr.dp
  show (A.deeper (envOfC "need_lates" (defScope s_need_lates) s.heap.objs.size f (.ref c))).depth + 1 < recursionLimit
  omega
end

end M10
set_option Elab.async false
set_option linter.all false
set_option maxRecDepth 100000
set_option maxHeartbeats 4000000
namespace M10
open PySem PySem.Spec PyProof.Rows L2 Evl
def spNCode (Pt : List Addr) : Sp := fun vs H Q _ => ∃ (c e s : Addr) (exs ixs : List V) (es : List (Int × Int)) (is : List Ins), vs = [.ref c] ∧ CodeAt H c e s exs ixs es is ∧ CodeOk es is ∧ TGs H Pt ∧ ∀ H', TbX Pt H H' → Q .non H'
theorem EntsAt.get {H : Hp} {xs : List V} {es : List (Int × Int)} (h : EntsAt H xs es) {i : Nat} {e : Int × Int} (he : es[i]? = some e) : ∃ a, xs[i]? = some (.ref a) ∧ H a = some (.tup [.int e.1, .int e.2]) := by
  have hl := h.length
  have hi : i < es.length := (List.getElem?_eq_some_iff.mp he).1
  obtain ⟨x, hx⟩ : ∃ x, xs[i]? = some x := ⟨xs[i]'(by omega), List.getElem?_eq_getElem _⟩
  obtain ⟨e', he', a, rfl, ha⟩ := Paired.at_ h hx
  rw [he] at he'
  cases he'
  exact ⟨a, hx, ha⟩
section
variable {P : Program} {w : World} {K : PySem.W.Frag} {mg : Str → Option Value} {base : Heap}
theorem sc_need_code : FnScope ["code", "entries", "some", "index", "one"] ["code"] (defScope s_need_code) := ⟨rfl, rfl, rfl, by decide +kernel, rfl, by decide +kernel, by decide +kernel⟩
theorem ok_need_code {c Pc : Addr} {Pt : List Addr} (hPc : Pc ∈ Pt) (D : DdC K mg "need_code" s_need_code ["code"] c) (TB : GxR.TabB base mg c Pc) (D2 : Dd K mg "is_in" s_is_in ["value", "least", "most"]) (D3 : Dd K mg "is_entry" s_is_entry ["value", "most"]) (T : Tb K mg)
    (c_is_instruction : Dn P w K mg base L2.CX0 2 "is_instruction" spIsIns) : Dn P w K mg base L2.CX0 5 "need_code" (spNCode Pt) := by
  refine D.ok sc_need_code (fun vs H Q E h => by obtain ⟨c, e, s, exs, ixs, es, is, rfl, _⟩ := h; rfl) (fun f A outer s H vs Q E hr h => ?_)
  obtain ⟨cA, eA, sA, exs, ixs, es, is, rfl, hC, hok, hT, q⟩ := h
  have hdp := hr.dp
  refine ⟨_, (pss_cons (ps_if (PW.pt (pw_or (pt_not (pt_val (pcb call_isi T.isinstance (pa_cons (pv 0) (pa_cons (pe_ty (n := "tuple") T.tuple) pa_nil))))) (pw_or (pt_cmpR op_ne (pcb call_len_seq T.len (pa_cons (pv 0) pa_nil)) pe_int (nomark _)) (pw_or1 (pt_not (pt_val (pe_allT hr TB rfl rfl T.all (pv 0) rfl rfl (by decide +kernel) rfl rfl (hfr_of (osc := defScope s_need_code) (by decide +kernel)) (fun _ => rfl)))))))) (pss_one ps_never) pss_nil)
    (pss_cons (ps_asg (pv 0) (pg_tup rfl (pgs_cons (gnm 1 sc_need_code.nd) (pgs_cons (gnm 2 sc_need_code.nd) pgs_nil))))
    (pss_cons (ps_if (PW.pt (pw_or (pt_not (pt_chain op_le op_le pe_int (pcb call_len_seq T.len (pa_cons (pv 1) pa_nil)) (pe_k T.MOST_PLAIN))) (pw_or1 (pt_not (pt_chain op_le op_le pe_int (pcb call_len_seq T.len (pa_cons (pv 2) pa_nil)) (pe_k T.MOST_CODE)))))) (pss_one ps_never) pss_nil)
    (pss_cons (ps_if (PW.pt (pw_or (pt_not (pt_val (pe_allT hr TB rfl rfl T.all (pv 1) rfl rfl (by decide +kernel) rfl rfl (hfr_of (osc := defScope s_need_code) (by decide +kernel)) (fun _ => rfl)))) (pw_or1 (pt_cmpR op_ne (pe_ix ix_tup (pe_ix ix_tup (pv 1) pe_int (fun _ _ => rfl)) pe_int (fun _ _ => rfl)) pe_int (nomark _))))) (pss_one ps_never) pss_nil)
    (pss_cons (ps_if (pt_val (pe_anyR hr TB rfl rfl T.any (pct cr_range1 T.range (pa_cons (pe_op op_sub (pcb call_len_seq T.len (pa_cons (pv 1) pa_nil)) pe_int) pa_nil)) rfl rfl (by decide +kernel) rfl rfl (hfr_of (osc := defScope s_need_code) (by decide +kernel)) (fun _ => rfl))) (pss_one ps_never) pss_nil)
    (pss_one (ps_for PassesOwn.never rfl (pi_enumT (by rfl) T.enumerate (pa_cons (pv 2) pa_nil)) (pg_tup rfl (pgs_cons (gnm 3 sc_need_code.nd) (pgs_cons (gnm 4 sc_need_code.nd) pgs_nil))) (pss_one (ps_if (pt_not (pt_val (pe_c0 c_is_instruction hr (pa_cons (pv 4) (pa_cons (pcb call_len_seq T.len (pa_cons (pv 1) pa_nil)) (pa_cons (pcb call_len_seq T.len (pa_cons (pv 2) pa_nil)) pa_nil)))))) (pss_one ps_never) pss_nil))))))))), ?_⟩
  have rlim : (A.deeper (envOfC "need_code" (defScope s_need_code) s.heap.objs.size f (.ref c))).depth + 3 < recursionLimit := by omega
  have hlE := hC.es.length
  have hlI := hC.is.length
  have hE1 : 1 ≤ es.length := by
    obtain ⟨m, r, e⟩ := hok.hd
    rw [e]
    exact Nat.succ_le_succ (Nat.zero_le _)
  have hI1 := hok.ipos
  have hE2 := hok.elen
  have hI2 := hok.ilen
  refine ⟨_, rfl, _, _, _, _, true, rfl, .ty "tuple", .base (.tup hC.c), rfl, _, rfl, ifF rfl ?_⟩
  refine ⟨_, rfl, cA, _, rfl, .inr (SqT.of hC.c), rfl, _, rfl, ifF rfl ?_⟩
  refine ⟨_, rfl, cA, _, rfl, hC.c, hT _ hPc, fun y hy => ?_, fun H1 hT1 => ?_⟩
  · intro R ok hD hsc hx hfr htup
    have kk : ∀ {nm : Str} {kd : NameKind}, R.env.scope.names.lookup nm = some kd → R.env.kindOf nm = some kd := fun h => h
    have hTy : ∀ {q : Pos}, RP P w R (.Name "tuple" q) (.ty "tuple") := rp_ty ok (kk (by rw [hsc]; rfl)) T.tuple (by decide +kernel)
    rcases List.mem_cons.mp hy with rfl | hy
    · exact rp_isTup ok (kk (by rw [hsc]; rfl)) T.isinstance (rp_loc ok (by rw [hsc]; rfl) hx) hTy fun g hg => htup g hg _ _ hC.e
    · rcases List.mem_cons.mp hy with rfl | hy
      · exact rp_isTup ok (kk (by rw [hsc]; rfl)) T.isinstance (rp_loc ok (by rw [hsc]; rfl) hx) hTy fun g hg => htup g hg _ _ hC.s
      · cases hy
  have X1 := TbX.of hPc hT hT1
  have C1 := hC.mono (X1.tx hT)
  refine ⟨_, rfl, ifF rfl ?_⟩
  refine ⟨_, rfl, cA, _, rfl, SqT.of C1.c, rfl, _, _, rfl, _, _, rfl, rfl, ?_⟩
  -- the sizes
  refine ⟨_, rfl, eA, _, rfl, .inr (SqT.of C1.e), _, _, rfl, rfl, _, rfl, ?_⟩
  rw [decide_eq_true (show (1 : Int) ≤ (exs.length : Int) by omega)]
  refine ifT rfl ⟨_, _, rfl, rfl, _, rfl, ?_⟩
  rw [decide_eq_true (show (exs.length : Int) ≤ 300 by omega)]
  refine ifF rfl ?_
  refine ⟨_, rfl, sA, _, rfl, .inr (SqT.of C1.s), _, _, rfl, rfl, _, rfl, ?_⟩
  rw [decide_eq_true (show (1 : Int) ≤ (ixs.length : Int) by omega)]
  refine ifT rfl ⟨_, _, rfl, rfl, _, rfl, ?_⟩
  rw [decide_eq_true (show (ixs.length : Int) ≤ 100000 by omega)]
  refine ifF rfl ?_
  -- the entries
  refine ⟨_, rfl, eA, _, rfl, C1.e, X1.1 _ hPc, fun y hy => ?_, fun H2 hT2 => ?_⟩
  · intro R ok2 hD hsc hx hfr htup
    have kk : ∀ {nm : Str} {kd : NameKind}, R.env.scope.names.lookup nm = some kd → R.env.kindOf nm = some kd := fun h => h
    obtain ⟨e1, he1, b, rfl, hb⟩ := Paired.mem C1.es hy
    obtain ⟨o1, o2, o3, o4⟩ := hok.ent e1 he1
    obtain ⟨cs, hcs1, hcs2⟩ := hfr ("some", NameKind.free) (by decide +kernel) rfl 2 (.ref sA) rfl rfl
    have hSome : ∀ {q : Pos}, RP P w R (.Name "some" q) (.ref sA) := rp_free ok2 (by rw [hsc]; rfl) hcs1 hcs2
    refine rp_is_entry ok2 D3 D2 T (kk (by rw [hsc]; rfl)) (ra_cons ok2 (rp_loc ok2 (by rw [hsc]; rfl) hx) (ra_cons ok2 (rp_len ok2 (kk (by rw [hsc]; rfl)) T.len hSome fun g hg => htup g hg _ _ C1.s) ra_nil)) (fun g hg => htup g hg _ _ hb) o1 (by omega) o3 (by omega) ?_
    rw [hD]
    show (A.deeper (envOfC "need_code" (defScope s_need_code) s.heap.objs.size f (.ref c))).depth + 1 + 1 < recursionLimit
    omega
  have X2 := X1.trans (TbX.of hPc X1.1 hT2)
  have C2 := hC.mono (X2.tx hT)
  refine ⟨_, rfl, ifF rfl ?_⟩
  obtain ⟨m0, r0, hes0⟩ := hok.hd
  obtain ⟨b0, hb1, hb2⟩ := C2.es.get (i := 0) (e := (0, m0)) (by rw [hes0] <;> rfl)
  refine ⟨_, rfl, eA, _, _, .ref b0, rfl, rfl, SqT.of C2.e, atI_nat (j := 0) hb1, b0, _, _, _, rfl, rfl, SqT.of hb2, rfl, rfl, _, rfl, ifF rfl ?_⟩
  -- they go up
  refine ⟨_, rfl, eA, _, rfl, .inr (SqT.of C2.e), _, _, rfl, rfl, _, rfl, fun p hp => ?_⟩
  have hnn : ((exs.length : Int) - 1) = ((exs.length - 1 : Nat) : Int) := by omega
  have xp : Ex H2 (upd H2 p (.rng 0 ((exs.length : Int) - 1))) := Ex.new hp
  have X3 := X2.ex xp
  have C3 := hC.mono (X3.tx hT)
  have ndp : (upd H2 p (.rng 0 ((exs.length : Int) - 1))) p = some (.rng 0 ((exs.length - 1 : Nat) : Int)) := by
    rw [upd_same, hnn]
  refine ⟨p, exs.length - 1, rfl, ndp, by omega, X3.1 _ hPc, fun i hi => ?_, fun H3 hT3 => ?_⟩
  · intro R ok2 hD hsc hx hfr htup
    obtain ⟨ce, hce1, hce2⟩ := hfr ("entries", NameKind.free) (by decide +kernel) rfl 1 (.ref eA) rfl rfl
    have hEnt : ∀ {q : Pos}, RP P w R (.Name "entries" q) (.ref eA) := rp_free ok2 (by rw [hsc]; rfl) hce1 hce2
    have hK : ∀ {q : Pos}, RP P w R (.Name "k" q) (.int (i : Int)) := rp_loc ok2 (by rw [hsc]; rfl) hx
    have i1 : i < es.length := by omega
    have i2 : i + 1 < es.length := by omega
    obtain ⟨a1, ha1, hb1⟩ := C3.es.get (List.getElem?_eq_getElem i1)
    obtain ⟨a2, ha2, hb2⟩ := C3.es.get (List.getElem?_eq_getElem i2)
    have hlt := List.pairwise_iff_getElem.mp hok.inc i (i + 1) i1 i2 (Nat.lt_succ_self i)
    refine rp_ge ok2 (rp_ix ok2 (rp_ix ok2 hEnt hK (fun g hg => htup g hg _ _ C3.e) (atI_nat (j := i) ha1) (fun _ _ => rfl)) rp_int (fun g hg => htup g hg _ _ hb1) rfl (fun _ _ => rfl))
      (rp_ix ok2 (rp_ix ok2 hEnt (rp_add ok2 hK rp_int) (fun g hg => htup g hg _ _ C3.e) (v := .ref a2) ?_ (fun _ _ => rfl)) rp_int (fun g hg => htup g hg _ _ hb2) rfl (fun _ _ => rfl)) (decide_eq_false (by omega)) (nomark _)
    have e1 : ((i : Int) + 1) = ((i + 1 : Nat) : Int) := by omega
    rw [e1]
    exact atI_nat ha2
  have X4 := X3.trans (TbX.of hPc X3.1 hT3)
  have C4 := hC.mono (X4.tx hT)
  refine ⟨_, rfl, ifF rfl ?_⟩
  -- the instructions
  refine ⟨_, rfl, sA, ixs, rfl, SqT.of C4.s, ?_⟩
  refine for_it (walk_enumT (K := K) (a := sA) (xs := ixs)) (fun i σ' H' => ∃ (v3 v4 : Option V), σ' = [some (.ref cA), some (.ref eA), some (.ref sA), v3, v4] ∧ Ex H3 H') ⟨_, _, rfl, Ex.refl _⟩ ?_ ?_ ?_
  · rintro i _ H' _ ⟨_, _, _, x⟩
    exact SqT.of (x _ _ C4.s)
  · rintro i y _ H5 H6 hi ⟨v3, v4, rfl, x5⟩ ⟨Tp, y1, y2, rfl, hTp, rfl, hy1, hy2⟩
    obtain ⟨ins, hins, hat⟩ := Paired.at_ C4.is hy2
    have x6 : Ex H3 (upd H5 Tp (.tup [y1, y2])) := x5.trans (Ex.new hTp)
    refine ⟨Tp, _, rfl, SqT.of upd_same, rfl, _, _, rfl, _, _, rfl, rfl, ?_⟩
    refine ⟨_, rfl, _, rfl, eA, _, rfl, .inr (SqT.of (x6 _ _ C4.e)), _, rfl, sA, _, rfl, .inr (SqT.of (x6 _ _ C4.s)), y2, ins, exs.length, ixs.length, rfl, hat.mono (Tx.of x6), ?_, _, rfl, ifF rfl ⟨_, _, rfl, x6⟩⟩
    rw [hlE, hlI]
    exact hok.ins ins (List.mem_of_getElem? hins)
  · rintro _ H5 ⟨v3, v4, rfl, x5⟩
    exact q _ (X4.ex x5)
end

end M10
set_option Elab.async false
set_option linter.all false
set_option maxRecDepth 100000
set_option maxHeartbeats 4000000
namespace M10
open PySem PySem.Spec PyProof.Rows L2 Evl
/-! ### a machine, stepped -/
structure MS where
  at_ : Int
  stack : List Int
  l0 : List Int
  up : List (Int × List Int)
  mf : Int
  ms : Int
def MS.own (S : MS) : List Int := match S.up with
  | [] => S.l0
  | r :: _ => r.2
inductive SR where
  | stuck | fin | go (S : MS)
def opM (k : K4) (a b : Int) : Int := match k with
  | .less => if a < b then 1 else 0
  | _ => wk k a b
/-- the upper k, what is left -/
abbrev upk (S : MS) (k : Nat) : List Int := S.stack.drop (S.stack.length - k)
abbrev lok (S : MS) (k : Nat) : List Int := S.stack.take (S.stack.length - k)
def putM (S : MS) (at' : Int) (n : Int) : MS := { S with at_ := at', stack := S.stack ++ [n], ms := max S.ms (S.stack.length + 1) }
def stepM (es : List (Int × Int)) (is : List Ins) (S : MS) : SR := match is[S.at_.toNat]? with
  | none => .stuck
  | some i => match i with
    | .back => (match S.up with
      | [] => if S.stack.length = 1 then .fin else .stuck
      | r :: u => .go { S with at_ := r.1, up := u })
    | .call j => (match es[j.toNat]? with
      | none => .stuck
      | some e => if S.stack.length < e.2.toNat then .stuck else .go { S with at_ := e.1, stack := lok S e.2.toNat, up := (S.at_ + 1, upk S e.2.toNat) :: S.up, mf := max S.mf (S.up.length + 2) })
    | .tail j => (match es[j.toNat]? with
      | none => .stuck
      | some e => if S.stack.length < e.2.toNat then .stuck else (match S.up with
        | [] => .go { S with at_ := e.1, stack := lok S e.2.toNat, l0 := upk S e.2.toNat }
        | r :: u => .go { S with at_ := e.1, stack := lok S e.2.toNat, up := (r.1, upk S e.2.toNat) :: u }))
    | .jump a => .go { S with at_ := a }
    | .zero a => if S.stack.length < 1 then .stuck else .go { S with at_ := if upk S 1 = [0] then a else S.at_ + 1, stack := lok S 1 }
    | .push n => .go (putM S (S.at_ + 1) n)
    | .arg k => (match S.own[k.toNat]? with
      | none => .stuck
      | some v => .go (putM S (S.at_ + 1) v))
    | .op k => (match upk S 2 with
      | [a, b] => .go (putM { S with stack := lok S 2 } (S.at_ + 1) (opM k a b))
      | _ => .stuck)
def Vok (l : List Int) : Prop := ∀ v ∈ l, 0 ≤ v ∧ v ≤ TOP
/-- a machine's state in order, at most N numbers and upper frames -/
structure WS (N : Nat) (S : MS) : Prop where
  a0 : 0 ≤ S.at_
  st : Vok S.stack
  l0 : Vok S.l0
  up : ∀ r ∈ S.up, 0 ≤ r.1 ∧ Vok r.2
  sn : S.stack.length ≤ N
  un : S.up.length ≤ N
  mf : (S.up.length : Int) + 1 ≤ S.mf
  ms : (S.stack.length : Int) ≤ S.ms
  on : S.l0.length ≤ 10 ∧ ∀ r ∈ S.up, r.2.length ≤ 10
theorem WS.own {N : Nat} {S : MS} (h : WS N S) : Vok S.own := by
  unfold MS.own
  cases e : S.up with
  | nil => exact h.l0
  | cons r u => exact (h.up r (by rw [e]; exact List.mem_cons_self)).2
theorem Vok.take {l : List Int} {k : Nat} (h : Vok l) : Vok (l.take k) := fun v hv => h v (List.mem_of_mem_take hv)
theorem Vok.drop {l : List Int} {k : Nat} (h : Vok l) : Vok (l.drop k) := fun v hv => h v (List.mem_of_mem_drop hv)
theorem opM_ok {k : K4} {a b : Int} (ha : 0 ≤ a ∧ a ≤ TOP) (hb : 0 ≤ b ∧ b ≤ TOP) : 0 ≤ opM k a b ∧ opM k a b ≤ TOP := by
  have T := TOP0
  have h := wk_top (k := k) ha.1 hb.1 ha.2
  cases k with
  | less =>
    show 0 ≤ (if a < b then (1 : Int) else 0) ∧ (if a < b then (1 : Int) else 0) ≤ TOP
    split <;> omega
  | _ => exact h
theorem WS.put {N : Nat} {S : MS} (h : WS N S) {a n : Int} (ha : 0 ≤ a) (hn : 0 ≤ n ∧ n ≤ TOP) : WS (N + 1) (putM S a n) := by
  have h1 := h.sn
  have h2 := h.un
  refine ⟨ha, fun v hv => ?_, h.l0, h.up, ?_, Nat.le_succ_of_le h2, h.mf, ?_, h.on⟩
  · rcases List.mem_append.mp hv with hv | hv
    · exact h.st v hv
    · rw [List.mem_singleton.mp hv]
      exact hn
  · show (S.stack ++ [n]).length ≤ N + 1
    rw [List.length_append, List.length_singleton]
    omega
  · show ((S.stack ++ [n]).length : Int) ≤ max S.ms (S.stack.length + 1)
    rw [List.length_append, List.length_singleton]
    omega
theorem upk_len {S : MS} {k : Nat} (h : k ≤ S.stack.length) : (upk S k).length = k := by
  show (S.stack.drop (S.stack.length - k)).length = k
  rw [List.length_drop]
  omega
theorem lok_len {S : MS} {k : Nat} : (lok S k).length = S.stack.length - k := by
  show (S.stack.take (S.stack.length - k)).length = _
  rw [List.length_take]
  omega
theorem WS.lo {N : Nat} {S : MS} (h : WS N S) (k : Nat) : WS N { S with stack := lok S k } := by
  have h1 := h.sn
  have h2 := h.ms
  have h3 := lok_len (S := S) (k := k)
  exact ⟨h.a0, h.st.take, h.l0, h.up, by show (lok S k).length ≤ N; omega, h.un, h.mf, by show ((lok S k).length : Int) ≤ S.ms; omega, h.on⟩
theorem get_mem {α : Type} {l : List α} {i : Nat} {x : α} (h : l[i]? = some x) : x ∈ l := List.mem_of_getElem? h
theorem WS.step {N : Nat} {S S' : MS} {es : List (Int × Int)} {is : List Ins} (hc : CodeOk es is) (h : WS N S) (hs : stepM es is S = .go S') : WS (N + 1) S' := by
  have h0 := h.sn
  have h1 := h.un
  have h2 := h.ms
  have h3 := h.mf
  unfold stepM at hs
  cases hi : is[S.at_.toNat]? with
  | none => rw [hi] at hs; cases hs
  | some i =>
    rw [hi] at hs
    have hok := hc.ins i (get_mem hi)
    have up1 : WS (N + 1) S := ⟨h.a0, h.st, h.l0, h.up, by omega, by omega, h.mf, h.ms, h.on⟩
    have ent : ∀ {j : Int} {e : Int × Int}, es[j.toNat]? = some e → 0 ≤ e.1 ∧ 0 ≤ e.2 ∧ e.2 ≤ 2 := fun he => by
      have := hc.ent _ (get_mem he)
      exact ⟨this.1, this.2.2.1, this.2.2.2⟩
    cases i with
    | back =>
      simp only at hs
      cases hu : S.up with
      | nil =>
        rw [hu] at hs
        simp only at hs
        split at hs <;> cases hs
      | cons r u =>
        rw [hu] at hs
        cases hs
        have hu2 := h.up
        have ho := h.on
        rw [hu] at hu2 ho h1 h3
        have h1' : u.length + 1 ≤ N := h1
        exact ⟨(hu2 r List.mem_cons_self).1, h.st, h.l0, fun q hq => hu2 q (List.mem_cons_of_mem _ hq), by show S.stack.length ≤ _; omega, by show u.length ≤ N + 1; omega, by
          have : ((r :: u).length : Int) = u.length + 1 := by rw [List.length_cons]; omega
          show (u.length : Int) + 1 ≤ S.mf
          omega, h.ms, ho.1, fun q hq => ho.2 q (List.mem_cons_of_mem _ hq)⟩
    | call j =>
      simp only at hs
      cases he : es[j.toNat]? with
      | none => rw [he] at hs; cases hs
      | some e =>
        rw [he] at hs
        simp only at hs
        split at hs
        · cases hs
        · rename_i hlt
          cases hs
          obtain ⟨e1, e2, e3⟩ := ent he
          have hl := h.lo e.2.toNat
          have hk := upk_len (S := S) (k := e.2.toNat) (by omega)
          refine ⟨e1, hl.st, h.l0, fun q hq => ?_, Nat.le_succ_of_le hl.sn, ?_, ?_, hl.ms, h.on.1, fun q hq => ?_⟩
          · rcases List.mem_cons.mp hq with rfl | hq
            · exact ⟨by have := h.a0; show 0 ≤ S.at_ + 1; omega, h.st.drop⟩
            · exact h.up q hq
          · show ((S.at_ + 1, upk S e.2.toNat) :: S.up).length ≤ N + 1
            rw [List.length_cons]
            omega
          · show ((((S.at_ + 1, upk S e.2.toNat) :: S.up).length : Nat) : Int) + 1 ≤ max S.mf (S.up.length + 2)
            rw [List.length_cons]
            omega
          · rcases List.mem_cons.mp hq with rfl | hq
            · show (upk S e.2.toNat).length ≤ 10
              omega
            · exact h.on.2 q hq
    | tail j =>
      simp only at hs
      cases he : es[j.toNat]? with
      | none => rw [he] at hs; cases hs
      | some e =>
        rw [he] at hs
        simp only at hs
        split at hs
        · cases hs
        · rename_i hlt
          obtain ⟨e1, e2, e3⟩ := ent he
          have hl := h.lo e.2.toNat
          have hk := upk_len (S := S) (k := e.2.toNat) (by omega)
          cases hu : S.up with
          | nil =>
            rw [hu] at hs
            cases hs
            exact ⟨e1, hl.st, h.st.drop, by rw [← hu]; exact h.up, Nat.le_succ_of_le hl.sn, by rw [← hu]; exact Nat.le_succ_of_le h.un, by rw [← hu]; exact h.mf, hl.ms, by show (upk S e.2.toNat).length ≤ 10; omega, by rw [← hu]; exact h.on.2⟩
          | cons r u =>
            rw [hu] at hs
            cases hs
            have hu2 := h.up
            have ho := h.on
            rw [hu] at hu2 ho h1 h3
            refine ⟨e1, hl.st, h.l0, fun q hq => ?_, Nat.le_succ_of_le hl.sn, by show u.length + 1 ≤ N + 1; have : u.length + 1 ≤ N := h1; omega, h3, hl.ms, ho.1, fun q hq => ?_⟩
            · rcases List.mem_cons.mp hq with rfl | hq
              · exact ⟨(hu2 r List.mem_cons_self).1, h.st.drop⟩
              · exact hu2 q (List.mem_cons_of_mem _ hq)
            · rcases List.mem_cons.mp hq with rfl | hq
              · show (upk S e.2.toNat).length ≤ 10
                omega
              · exact ho.2 q (List.mem_cons_of_mem _ hq)
    | jump a =>
      cases hs
      exact ⟨hok.1, up1.st, up1.l0, up1.up, up1.sn, up1.un, up1.mf, up1.ms, up1.on⟩
    | zero a =>
      simp only at hs
      split at hs
      · cases hs
      · cases hs
        have hl := h.lo 1
        refine ⟨?_, hl.st, h.l0, h.up, Nat.le_succ_of_le hl.sn, Nat.le_succ_of_le h.un, h.mf, hl.ms, h.on⟩
        have := h.a0
        have := hok.1
        show 0 ≤ (if upk S 1 = [0] then a else S.at_ + 1)
        split <;> omega
    | push n =>
      cases hs
      exact h.put (by have := h.a0; omega) hok
    | arg k =>
      simp only at hs
      cases hv : S.own[k.toNat]? with
      | none => rw [hv] at hs; cases hs
      | some v =>
        rw [hv] at hs
        cases hs
        exact h.put (by have := h.a0; omega) (h.own v (get_mem hv))
    | op k =>
      simp only at hs
      split at hs
      · rename_i a b hab
        cases hs
        have hd : Vok (upk S 2) := h.st.drop
        rw [hab] at hd
        exact (h.lo 2).put (by have := h.a0; show 0 ≤ S.at_ + 1; omega) (opM_ok (hd a List.mem_cons_self) (hd b (List.mem_cons_of_mem _ List.mem_cons_self)))
      · cases hs
/-- a run: what it gives, None where the fuel ends -/
inductive RR2 where
  | none | stuck (at_ : Int) | done (v made mf ms : Int)
def runM (es : List (Int × Int)) (is : List Ins) : Nat → Int → MS → RR2
  | 0, _, _ => .none
  | n + 1, made, S => match stepM es is S with
    | .stuck => .stuck S.at_
    | .fin => .done (S.stack.headD 0) made S.mf S.ms
    | .go S' => runM es is n (made + 1) S'

end M10
set_option Elab.async false
set_option linter.all false
set_option maxRecDepth 100000
set_option maxHeartbeats 4000000
namespace M10
open PySem PySem.Spec PyProof.Rows L2 Evl
/-! ### methods, fields as targets, an own exception without arguments -/
section
variable {X : Cx} {x m : Str} {sp : Sp} {E : XK} {t : TA} {ta : TE} {e o : Expr} {es : List Expr} {p pos apos : Pos} {CX : CXT} {j k : Nat} {C : Addr}
theorem pe_mx {pl : Sem Bool} (cl : Cls X.K C) (c : Dm X.prog X.w X.K X.mg X.base CX k C m sp) (hr : Room j X.A) (hx : Passes CX X E) (he : PE X o ta) (ha : PA X (e :: es) t) (hk : k ≤ j := by omega)
    (hst : starEach (e :: es) X.env = (false, eval e X.env) :: starEach es X.env := by rfl) (hpl : (backTo pos (starEach es X.env)).any (·.1) = false := by rfl)
    (ht : eval (.Call (.Attribute o m apos) (e :: es) [] pos) X.env = (do
      let ov ← eval o X.env
      standAt apos.atName
      let (f, first) ← holding [ov] (getMethod ov m pl)
      callWith pos f first (backTo pos (starEach (e :: es) X.env)) (backToKw pos (keywordEach [] X.env))) := by rfl) : PE X (.Call (.Attribute o m apos) (e :: es) [] pos) (tMe C m sp E ta t) := by
  obtain ⟨f, fd, ps, hm, F, b⟩ := c
  refine ⟨fun pins s σ H Q I h => ?_⟩
  refine (pe_meth (E := E) he cl hm F (hr.mono hk) b .nil hx ha hst hpl ht).run pins s σ H Q I ?_
  simpa only [tMe, tMeth, List.append_nil] using h
theorem pe_mx0 {pl : Sem Bool} (cl : Cls X.K C) (c : Dm X.prog X.w X.K X.mg X.base CX k C m sp) (hr : Room j X.A) (hx : Passes CX X E) (he : PE X o ta) (hk : k ≤ j := by omega)
    (ht : eval (.Call (.Attribute o m apos) [] [] pos) X.env = (do
      let ov ← eval o X.env
      standAt apos.atName
      let (f, first) ← holding [ov] (getMethod ov m pl)
      callWith pos f first (backTo pos (starEach [] X.env)) (backToKw pos (keywordEach [] X.env))) := by rfl) : PE X (.Call (.Attribute o m apos) [] [] pos) (tMe C m sp E ta tNil) := by
  obtain ⟨f, fd, ps, hm, F, b⟩ := c
  refine ⟨fun pins s σ H Q I h => ?_⟩
  refine (pe_meth0 (E := E) he cl hm F (hr.mono hk) b .nil hx ht).run pins s σ H Q I ?_
  simpa only [tMe, tMeth, List.append_nil] using h
def gFld (K : PySem.W.Frag) (to : TE) (f : Str) : TG := fun v σ H Q => to σ H fun x H1 => ∃ a C dx fs, x = .ref a ∧ H1 a = some (.ins C dx fs) ∧ Cls K C ∧ NoAttr K C f ∧ fs.length < 1000 ∧ Q σ (upd H1 a (.ins C dx (putF f v fs)))
theorem pg_fld {f : Str} {to : TE} (ho : PE X o to) : PG X (.Attribute o f pos) (gFld X.K to f) := by
  refine ⟨fun pins s σ H v u Q I r h => ?_⟩
  rw [arm_assign_Attribute]
  refine wpAny_bind (wpAny_holding (thn (ho.run pins s σ H _ I h) fun ov s1 ⟨y, H1, I1, r1, a, C, dx, fs, e1, e2, c, n, l, q⟩ => ?_))
  subst e1
  obtain rfl : ov = Value.ref a := r1
  refine wpAny_bind (wpAny_standAt (wpAny_bind (wpAny_holding (setattr_ok I1 e2 c n l r fun s2 I2 => ?_))))
  exact wpAny_release ⟨σ, _, I2, q⟩
theorem pmk_own0 {bmB : List Value} {B newId initId : String} (F : PySem.ExcBaseFacts B newId initId bmB) (q : PySem.W.excIn X.K C bmB newId = true) (gC : X.mg x = some (.ref C)) (kC : PySem.W.keepIn X.K (.ref C) = true) (r : Raises X (.ref C)) (hg : Gl X x)
    (hdb : (x == ("__debug__" : Str)) = false := by decide) : PMk X (.Call (.Name x p) [] [] pos) (fun _ H Q => Q (.ref C) none H) := by
  intro pins s σ H Q I h
  refine wpAny_Call_Name_kw (ld_glob I hg gC ?_ hdb)
  refine PySem.W.callWith_K0 I.kIn kC ?_
  show wpAny _ _ (call (.ref C) []) _ _ _
  obtain ⟨bm, N, nm, qn, bs, hdct, sn, sub, ab, col, dd, k0, k1, k2, k3, k5, mN, hC, hN, hni, T⟩ := exc_obj I.kIn q
  exact wpAny_call_exc_subT F T hC hN hni (fun h' e hm => mk_of I hm r h (I.hok.gone hm.new)) (by show 0 ≤ sizeLine; exact Nat.zero_le _)
end

end M10
set_option Elab.async false
set_option linter.all false
set_option maxRecDepth 100000
set_option maxHeartbeats 4000000
namespace M10
open PySem PySem.Spec PyProof.Rows L2 Evl
/-! ### the class Machine: what is had of it, its heap -/
def DM (K : PySem.W.Frag) (C : Addr) (m q : Str) (st : Stmt) (ps : List Str) : Prop := ∃ f fd, L2.Fun K m q st f fd ∧ Meth K C m f ∧ Binds K fd ps []
structure Mcf (K : PySem.W.Frag) (mg : Str → Option Value) (C : Addr) : Prop where
  cls : Cls K C
  na : ∀ f ∈ (["entries", "some", "at", "stack", "frames", "most_frames", "most_stack"] : List Str), NoAttr K C f
  g : mg "Machine" = some (.ref C)
  mks : PySem.W.makesIn K C = true
  kp : PySem.W.keepIn K (.ref C) = true
structure Stf (K : PySem.W.Frag) (mg : Str → Option Value) (C : Addr) : Prop where
  T : OexC K C
  g : mg "Stuck" = some (.ref C)
  no : PySem.W.findIn K (.ref C) "address" = some none
  init : ∃ f fd, L2.Fun K "__init__" "Stuck.__init__" m_Stuck_init f fd ∧ PySem.W.findIn K (.ref C) "__init__" = some (some (.ref f)) ∧ PySem.W.typeIn K (.ref f) = some (.type "function") ∧ Binds K fd ["self", "address"] []
theorem DM.okX {P : Program} {w : World} {K : PySem.W.Frag} {mg : Str → Option Value} {base : Heap} {C : Addr} {m q : Str} {sp : Sp} {k : Nat} {st : Stmt} {N ps : List Str} (D : DM K C m q st ps) (S : FnScope N ps (defScope st)) (len : ∀ vs H Q E, sp vs H Q E → vs.length = ps.length)
    (hbody : ∀ (f : Addr) (cdv : Value) (A : Around) (outer : List Env) (s : Shared) (H : Hp) (vs : List V) (Q : VK) (E : XK), Room k (A.deeper (envOfC q (defScope st) s.heap.objs.size f cdv)) → sp vs H Q E →
      ∃ t, PSs (cxOf (L2.CX P w) P w K mg base N q (defScope st) f cdv A outer s H E) (defBody st) t ∧ t { nx := fun _ H' => Q .non H', rt := Q } (start N vs) H) : Dm P w K mg base (L2.CX P w) (k + 1) C m sp := by
  obtain ⟨f, fd, F, g, b⟩ := D
  exact ⟨f, fd, ps, g, F.okX S len (fun cdv A outer s H vs Q E hr h => hbody f cdv A outer s H vs Q E hr h), b⟩
def spStI (CS : Addr) : Sp := fun vs H Q _ => ∃ (a : Addr) (n : Int), vs = [.ref a, .int n] ∧ H a = some (exo a CS none) ∧ ∀ dx, H dx = none → dx ≠ a → Q .non (upd (upd H dx (exd dx [("address", .int n)])) a (exo a CS (some dx)))
section
variable {P : Program} {w : World} {K : PySem.W.Frag} {mg : Str → Option Value} {base : Heap}
theorem sc_Stuck_init : FnScope ["self", "address"] ["self", "address"] (defScope m_Stuck_init) := ⟨rfl, rfl, rfl, by decide +kernel, rfl, by decide +kernel, by decide +kernel⟩
theorem ok_stI {CS f : Addr} {fd : FuncData} (F : L2.Fun K "__init__" "Stuck.__init__" m_Stuck_init f fd) (T : Stf K mg CS) : FnOk P w K mg base L2.CX0 1 f fd ["self", "address"] (spStI CS) :=
  F.ok sc_Stuck_init (fun vs H Q E h => by obtain ⟨a, n, rfl, _⟩ := h; rfl) fun cdv A outer s H vs Q E hr h => by
    obtain ⟨a, n, rfl, ha, q⟩ := h
    refine ⟨_, (pss_one (ps_ost (pv 0) (pv 1))), ?_⟩
    exact ⟨_, rfl, _, rfl, a, CS, rfl, T.T, T.no, .inl ⟨ha, fun dx h1 h2 => q dx h1 h2⟩⟩
end
theorem pStuck {X : Cx} {CS : Addr} {ta : TA} {e : Expr} {p pos : Pos} (T : Stf X.K X.mg CS) (hr : Room 2 X.A) (ha : PA X [e] ta) (hg : Gl X "Stuck" := by rfl)
    (hst : starEach [e] X.env = (false, eval e X.env) :: starEach [] X.env := by rfl) (hpl : (backTo pos (starEach [] X.env)).any (·.1) = false := by rfl) :
    PMk X (.Call (.Name "Stuck" p) [e] [] pos) (tMkO CS (spStI CS) [] ta) := by
  obtain ⟨f, fd, F, hi, ht, hb⟩ := T.init
  exact pmk_oex T.T hi ht (ok_stI F T) hr hb .nil L2.pass0 hg T.g ha (by decide) hst hpl
/-- the end of its reading -/
theorem stk_end {CS : Addr} {H1 : Hp} {n : Int} {Q : XK} (h : ∀ d H2, Ex H1 H2 → H1 d = none → H2 d = some (.xd [("address", .int n)]) → Q (.ref CS) (some d) H2) :
    [V.int n].length ≤ 1000 ∧ ∀ a, H1 a = none → spStI CS (.ref a :: ([V.int n] ++ [])) (upd H1 a (exo a CS none))
      (fun v H2 => v = .non ∧ ∃ (d : Addr) (fs : List (Str × V)), H2 a = some (exo a CS (some d)) ∧ H2 d = some (exd d fs) ∧ H1 d = none ∧ Q (.ref CS) (some d) (upd (del H2 a) d (.xd fs))) (fun _ _ _ => False) := by
  refine ⟨Nat.le_of_ble_eq_true rfl, fun a ha => ⟨a, n, rfl, upd_same, fun dx hdx hne => ⟨rfl, dx, [("address", .int n)], upd_same, ?_, ?_, ?_⟩⟩⟩
  · rw [upd_ne hne, upd_same]
  · rw [upd_ne hne] at hdx
    exact hdx
  · rw [upd_ne hne] at hdx
    refine h dx _ (fun b o hb => ?_) hdx upd_same
    have n1 : b ≠ a := ne_of_none hb ha
    have n2 : b ≠ dx := ne_of_none hb hdx
    rw [upd_ne n2, del_ne n1, upd_ne n1, upd_ne n2, upd_ne n1]
    exact hb
/-! ### its heap -/
abbrev mfs (e s st fr : Addr) (S : MS) : List (Str × V) := [("entries", .ref e), ("some", .ref s), ("at", .int S.at_), ("stack", .ref st), ("frames", .ref fr), ("most_frames", .int S.mf), ("most_stack", .int S.ms)]
/-- the frames, the last first -/
def FrR (H : Hp) (st fr : Addr) : List V → List (Int × List Int) → List Int → Prop
  | xs, [], l0 => ∃ g b, xs = [.ref g] ∧ H g = some (.tup [.non, .ref b]) ∧ H b = some (.lst (l0.map V.int)) ∧ b ≠ st ∧ b ≠ fr
  | xs, r :: up, l0 => ∃ g b ys, xs = .ref g :: ys ∧ H g = some (.tup [.int r.1, .ref b]) ∧ H b = some (.lst (r.2.map V.int)) ∧ b ≠ st ∧ b ≠ fr ∧ FrR H st fr ys up l0
/-- all but m, st, fr is kept -/
def Kq (m st fr : Addr) (H H' : Hp) : Prop := ∀ b o, b ≠ m → b ≠ st → b ≠ fr → H b = some o → H' b = some o
structure MAt (H0 H : Hp) (C e s m dx st fr : Addr) (FL : List V) (S : MS) : Prop where
  ex : Ex H0 H
  nm : H0 m = none
  nst : H0 st = none
  nfr : H0 fr = none
  ins : H m = some (.ins C dx (mfs e s st fr S))
  lst : H st = some (.lst (S.stack.map V.int))
  frl : H fr = some (.lst FL)
  frs : FrR H st fr FL.reverse S.up S.l0
  ne : st ≠ fr
theorem FrR.mono {H H' : Hp} {st st' fr : Addr} (k : ∀ b o, b ≠ st → b ≠ fr → (∀ a c d, o ≠ .ins a c d) → H b = some o → H' b = some o ∧ (b ≠ st' ∨ ∃ xs, o = .tup xs)) (hst : ∃ l, H st = some (.lst l)) (hfr : ∃ l, H fr = some (.lst l)) {l0 : List Int} :
    ∀ {up : List (Int × List Int)} {xs : List V}, FrR H st fr xs up l0 → FrR H' st' fr xs up l0 := by
  have kt : ∀ {g : Addr} {ys : List V}, H g = some (.tup ys) → H' g = some (.tup ys) := fun {g ys} h2 => by
    obtain ⟨l, hl⟩ := hst
    obtain ⟨l', hl'⟩ := hfr
    exact (k g _ (fun z => by rw [z, hl] at h2; cases h2) (fun z => by rw [z, hl'] at h2; cases h2) (fun _ _ _ z => by cases z) h2).1
  have kl : ∀ {b : Addr} {ys : List V}, H b = some (.lst ys) → b ≠ st → b ≠ fr → H' b = some (.lst ys) ∧ b ≠ st' := fun {b ys} h3 h4 h5 => by
    obtain ⟨z1, z2⟩ := k b _ h4 h5 (fun _ _ _ z => by cases z) h3
    refine ⟨z1, ?_⟩
    rcases z2 with z2 | ⟨_, z2⟩
    · exact z2
    · cases z2
  intro up
  induction up with
  | nil =>
    intro xs h
    obtain ⟨g, b, h1, h2, h3, h4, h5⟩ := h
    exact ⟨g, b, h1, kt h2, (kl h3 h4 h5).1, (kl h3 h4 h5).2, h5⟩
  | cons r up ih =>
    intro xs h
    obtain ⟨g, b, ys, h1, h2, h3, h4, h5, h6⟩ := h
    exact ⟨g, b, ys, h1, kt h2, (kl h3 h4 h5).1, (kl h3 h4 h5).2, h5, ih h6⟩
theorem FrR.len {H : Hp} {st fr : Addr} {l0 : List Int} : ∀ {up : List (Int × List Int)} {xs : List V}, FrR H st fr xs up l0 → xs.length = up.length + 1 := by
  intro up
  induction up with
  | nil =>
    intro xs h
    obtain ⟨g, b, rfl, _⟩ := h
    rfl
  | cons r up ih =>
    intro xs h
    obtain ⟨g, b, ys, rfl, _, _, _, _, h6⟩ := h
    rw [List.length_cons, List.length_cons, ih h6]
/-- the last frame -/
theorem FrR.hd {H : Hp} {st fr : Addr} {xs : List V} {S : MS} (h : FrR H st fr xs S.up S.l0) : ∃ g b v r, xs = .ref g :: r ∧ H g = some (.tup [v, .ref b]) ∧ H b = some (.lst (S.own.map V.int)) ∧ b ≠ st ∧ b ≠ fr ∧ (∀ q u, S.up = q :: u → v = .int q.1 ∧ FrR H st fr r u S.l0) ∧ (S.up = [] → v = .non ∧ r = []) := by
  unfold MS.own
  cases hu : S.up with
  | nil =>
    rw [hu] at h
    obtain ⟨g, b, h1, h2, h3, h4, h5⟩ := h
    exact ⟨g, b, .non, [], h1, h2, h3, h4, h5, fun q u z => (by cases z), fun _ => ⟨rfl, rfl⟩⟩
  | cons q u =>
    rw [hu] at h
    obtain ⟨g, b, ys, h1, h2, h3, h4, h5, h6⟩ := h
    exact ⟨g, b, .int q.1, ys, h1, h2, h3, h4, h5, fun q' u' z => (by cases z; exact ⟨rfl, h6⟩), fun z => by cases z⟩
section
variable {H0 H : Hp} {C e s m dx st fr : Addr} {FL : List V} {S : MS}
theorem MAt.m_st (M : MAt H0 H C e s m dx st fr FL S) : m ≠ st := fun z => by
  have h := M.ins
  rw [z, M.lst] at h
  cases h
theorem MAt.m_fr (M : MAt H0 H C e s m dx st fr FL S) : m ≠ fr := fun z => by
  have h := M.ins
  rw [z, M.frl] at h
  cases h
/-- new things -/
theorem MAt.mono {H' : Hp} (M : MAt H0 H C e s m dx st fr FL S) (x : Ex H H') : MAt H0 H' C e s m dx st fr FL S :=
  ⟨M.ex.trans x, M.nm, M.nst, M.nfr, x _ _ M.ins, x _ _ M.lst, x _ _ M.frl, by
    refine FrR.mono (st := st) (fr := fr) (fun b o n1 n2 ni h => ?_) ⟨_, M.lst⟩ ⟨_, M.frl⟩ M.frs
    exact ⟨x _ _ h, .inl n1⟩, M.ne⟩
theorem Ex.at {H0 H : Hp} {p : Addr} {o : HO} (x : Ex H0 H) (h : H0 p = none) : Ex H0 (upd H p o) := fun b u hb => by
  rw [upd_ne (ne_of_none hb h)]
  exact x _ _ hb
/-- a field is set -/
theorem MAt.fld {S' : MS} (M : MAt H0 H C e s m dx st fr FL S) (h1 : S'.stack = S.stack) (h2 : S'.up = S.up) (h3 : S'.l0 = S.l0) : MAt H0 (upd H m (.ins C dx (mfs e s st fr S'))) C e s m dx st fr FL S' := by
  have n1 := M.m_st
  have n2 := M.m_fr
  refine ⟨Ex.at M.ex M.nm, M.nm, M.nst, M.nfr, upd_same, by rw [upd_ne (Ne.symm n1), h1]; exact M.lst, by rw [upd_ne (Ne.symm n2)]; exact M.frl, ?_, M.ne⟩
  rw [h2, h3]
  refine FrR.mono (st := st) (fr := fr) (fun b o a1 a2 ni h => ⟨?_, .inl a1⟩) ⟨_, M.lst⟩ ⟨_, M.frl⟩ M.frs
  rw [upd_ne (fun z => ?_)]
  · exact h
  · rw [z, M.ins] at h
    exact ni _ _ _ (Option.some.inj h).symm
/-- a new list for the stack -/
theorem MAt.stk {st' : Addr} {S' : MS} (M : MAt H0 H C e s m dx st fr FL S) (n1 : H st' = none) (h2 : S'.up = S.up) (h3 : S'.l0 = S.l0) :
    MAt H0 (upd (upd H st' (.lst (S'.stack.map V.int))) m (.ins C dx (mfs e s st' fr S'))) C e s m dx st' fr FL S' := by
  have a1 : m ≠ st' := ne_of_none M.ins n1
  have a2 : fr ≠ st' := ne_of_none M.frl n1
  have n2 := M.m_fr
  have n0 : H0 st' = none := by
    cases z : H0 st' with
    | none => rfl
    | some o =>
      rw [M.ex _ _ z] at n1
      cases n1
  refine ⟨Ex.at (Ex.at M.ex n0) M.nm, M.nm, n0, M.nfr, upd_same, by rw [upd_ne (Ne.symm a1), upd_same], by rw [upd_ne (Ne.symm n2), upd_ne a2]; exact M.frl, ?_, Ne.symm a2⟩
  rw [h2, h3]
  refine FrR.mono (st := st) (fr := fr) (fun b o a1 a2 ni h => ?_) ⟨_, M.lst⟩ ⟨_, M.frl⟩ M.frs
  have n3 : b ≠ st' := ne_of_none h n1
  refine ⟨?_, .inl n3⟩
  rw [upd_ne (fun z => ?_), upd_ne n3]
  · exact h
  · rw [z, M.ins] at h
    exact ni _ _ _ (Option.some.inj h).symm
/-- the stack's list is changed -/
theorem MAt.app {xs : List V} {S' : MS} (M : MAt H0 H C e s m dx st fr FL S) (hx : xs = S'.stack.map V.int) (h2 : S'.up = S.up) (h3 : S'.l0 = S.l0) (h4 : S'.at_ = S.at_) (h5 : S'.mf = S.mf) (h6 : S'.ms = S.ms) :
    MAt H0 (upd H st (.lst xs)) C e s m dx st fr FL S' := by
  have e1 : mfs e s st fr S' = mfs e s st fr S := by
    show [_, _, _, _, _, _, _] = [_, _, _, _, _, _, _]
    rw [h4, h5, h6]
  refine ⟨Ex.at M.ex M.nst, M.nm, M.nst, M.nfr, by rw [upd_ne M.m_st, e1]; exact M.ins, by rw [upd_same, hx], by rw [upd_ne (Ne.symm M.ne)]; exact M.frl, ?_, M.ne⟩
  rw [h2, h3]
  exact FrR.mono (st := st) (fr := fr) (fun b o a1 a2 ni h => ⟨by rw [upd_ne a1]; exact h, .inl a1⟩) ⟨_, M.lst⟩ ⟨_, M.frl⟩ M.frs
/-- the frames' list is changed -/
theorem MAt.frm {FL' : List V} {S' : MS} (M : MAt H0 H C e s m dx st fr FL S) (hf : FrR H st fr FL'.reverse S'.up S'.l0) (h1 : S'.stack = S.stack) (h4 : S'.at_ = S.at_) (h5 : S'.mf = S.mf) (h6 : S'.ms = S.ms) :
    MAt H0 (upd H fr (.lst FL')) C e s m dx st fr FL' S' := by
  have e1 : mfs e s st fr S' = mfs e s st fr S := by
    show [_, _, _, _, _, _, _] = [_, _, _, _, _, _, _]
    rw [h4, h5, h6]
  refine ⟨Ex.at M.ex M.nfr, M.nm, M.nst, M.nfr, by rw [upd_ne M.m_fr, e1]; exact M.ins, by rw [upd_ne M.ne, h1]; exact M.lst, by rw [upd_same], ?_, M.ne⟩
  exact FrR.mono (st := st) (fr := fr) (fun b o a1 a2 ni h => ⟨by rw [upd_ne a2]; exact h, .inl a1⟩) ⟨_, M.lst⟩ ⟨_, M.frl⟩ hf
end

end M10
set_option Elab.async false
set_option linter.all false
set_option maxRecDepth 100000
set_option maxHeartbeats 4000000
namespace M10
open PySem PySem.Spec PyProof.Rows L2 Evl
theorem pf_at (e s st fr : Addr) (S : MS) (n : Int) : putF "at" (.int n) (mfs e s st fr S) = mfs e s st fr { S with at_ := n } := by rfl
theorem pf_stack (e s st st' fr : Addr) (S : MS) : putF "stack" (.ref st') (mfs e s st fr S) = mfs e s st' fr S := by rfl
theorem pf_mf (e s st fr : Addr) (S : MS) (n : Int) : putF "most_frames" (.int n) (mfs e s st fr S) = mfs e s st fr { S with mf := n } := by rfl
theorem pf_ms (e s st fr : Addr) (S : MS) (n : Int) : putF "most_stack" (.int n) (mfs e s st fr S) = mfs e s st fr { S with ms := n } := by rfl
theorem na_ (K : PySem.W.Frag) {mg : Str → Option Value} {C : Addr} (T : Mcf K mg C) (f : Str) (h : (["entries", "some", "at", "stack", "frames", "most_frames", "most_stack"] : List Str).elem f = true) : NoAttr K C f := T.na f (List.elem_iff.mp h)
theorem cut_lo {l : List Int} {n k : Nat} (hn : (l.map V.int).length = n) (hk : k ≤ n) : cutV (l.map V.int) (some ((n : Int) - (k : Int))) none = (l.drop (l.length - k)).map V.int := by
  have e : (n : Int) - (k : Int) = ((n - k : Nat) : Int) := by omega
  unfold cutV
  rw [e, HT.sIx_nat, HT.sIx_none]
  have hl : (l.map V.int).length = l.length := List.length_map ..
  rw [hn, List.map_drop, List.take_of_length_le (by rw [List.length_drop, hn]; exact Nat.le_refl _), Nat.min_eq_left (by omega), ← hn, hl]
theorem cut_hi {l : List Int} {n k : Nat} (hn : (l.map V.int).length = n) (hk : k ≤ n) : cutV (l.map V.int) none (some ((n : Int) - (k : Int))) = (l.take (l.length - k)).map V.int := by
  have e : (n : Int) - (k : Int) = ((n - k : Nat) : Int) := by omega
  unfold cutV
  rw [e, HT.sIx_nat, HT.sIx_none]
  have hl : (l.map V.int).length = l.length := List.length_map ..
  rw [hn, List.map_take, List.drop_zero, Nat.min_eq_left (by omega), Nat.sub_zero, ← hn, hl]
/-- one method's promise: from a machine in order to the next, or Stuck -/
def StkE (E : XK) (H0 : Hp) (CS : Addr) (n : Int) : Prop := ∀ d H', Ex H0 H' → H' d = some (.xd [("address", .int n)]) → E (.ref CS) (some d) H'
def spTake (C CS : Addr) : Sp := fun vs H Q E => ∃ (H0 : Hp) (e s m dx st fr : Addr) (FL : List V) (S : MS) (k : Nat), vs = [.ref m, .int k] ∧ MAt H0 H C e s m dx st fr FL S ∧ S.stack.length ≤ 1000000 ∧
  (S.stack.length < k → StkE E H0 CS S.at_) ∧
  (k ≤ S.stack.length → ∀ H' p st', MAt H0 H' C e s m dx st' fr FL { S with stack := lok S k } → H' p = some (.lst ((upk S k).map V.int)) → p ≠ st' → p ≠ fr → H0 p = none → Q (.ref p) H')
def spPutM (C : Addr) : Sp := fun vs H Q _ => ∃ (H0 : Hp) (e s m dx st fr : Addr) (FL : List V) (S : MS) (n : Int), vs = [.ref m, .int n] ∧ MAt H0 H C e s m dx st fr FL S ∧ S.stack.length < 1000000 ∧
  (∀ H', MAt H0 H' C e s m dx st fr FL (putM S S.at_ n) → Q .non H')
section
variable {P : Program} {w : World} {K : PySem.W.Frag} {mg : Str → Option Value} {base : Heap}
theorem sc_Machine_put : FnScope ["self", "number"] ["self", "number"] (defScope m_Machine_put) := ⟨rfl, rfl, rfl, by decide +kernel, rfl, by decide +kernel, by decide +kernel⟩
theorem ok_put {C : Addr} (D : DM K C "put" "Machine.put" m_Machine_put ["self", "number"]) (TM : Mcf K mg C) (T : Tb K mg) : Dm P w K mg base (L2.CX P w) 1 C "put" (spPutM C) := by
  refine D.okX sc_Machine_put (fun vs H Q E h => by obtain ⟨H0, e, s, m, dx, st, fr, FL, S, n, rfl, _⟩ := h; rfl) (fun f cdv A outer s H vs Q E hr h => ?_)
  obtain ⟨H0, e, s, m, dx, st, fr, FL, S, n, rfl, M, hz, q⟩ := h
  refine ⟨_, (pss_cons (ps_expr (pe_bm PySem.F.plainAttrs_list PySem.F.slot_list_append PySem.F.type_list_append mt_append (pe_fld (pv 0) rfl) (pa_cons (pv 1) pa_nil)))
    (pss_one (ps_fld (pv 0) (pcb (call_max2 rfl) T.max (pa_cons (pe_fld (pv 0) rfl) (pa_cons (pcb call_len_seq T.len (pa_cons (pe_fld (pv 0) rfl) pa_nil)) pa_nil))) rfl))), ?_⟩
  refine ⟨_, rfl, m, C, dx, _, .ref st, rfl, M.ins, TM.cls, na_ K TM _ (by decide), rfl, .inl ⟨rfl, _, SqL.of M.lst⟩, _, rfl, st, _, _, rfl, rfl, M.lst, sz' (by rw [List.length_map]; omega), ?_⟩
  have M1 := M.app (S' := { S with stack := S.stack ++ [n] }) (xs := S.stack.map V.int ++ [V.int n]) (by rw [List.map_append] <;> rfl) rfl rfl rfl rfl rfl
  generalize upd H st (.lst (S.stack.map V.int ++ [V.int n])) = H1 at M1
  refine ⟨_, rfl, m, C, dx, _, .int S.ms, rfl, M1.ins, TM.cls, na_ K TM _ (by decide), rfl, _, rfl, m, C, dx, _, .ref st, rfl, M1.ins, TM.cls, na_ K TM _ (by decide), rfl, st, _, rfl, .inl (SqL.of M1.lst), _, _, rfl, _, rfl, m, C, dx, _, rfl, M1.ins, TM.cls, na_ K TM _ (by decide), (show 7 < 1000 by decide), ?_⟩
  rw [max2, pf_ms]
  have M2 := M1.fld (S' := putM S S.at_ n) rfl rfl rfl
  refine q _ ?_
  have e1 : ((((S.stack ++ [n]).map V.int).length : Nat) : Int) = S.stack.length + 1 := by rw [List.length_map, List.length_append, List.length_singleton] <;> omega
  rw [e1]
  exact M2
theorem sc_Machine_take : FnScope ["self", "many", "found"] ["self", "many"] (defScope m_Machine_take) := ⟨rfl, rfl, rfl, by decide +kernel, rfl, by decide +kernel, by decide +kernel⟩
theorem ok_take {C CS : Addr} (D : DM K C "take" "Machine.take" m_Machine_take ["self", "many"]) (TM : Mcf K mg C) (TS : Stf K mg CS) (T : Tb K mg) : Dm P w K mg base (L2.CX P w) 3 C "take" (spTake C CS) := by
  refine D.okX sc_Machine_take (fun vs H Q E h => by obtain ⟨H0, e, s, m, dx, st, fr, FL, S, k, rfl, _⟩ := h; rfl) (fun f cdv A outer s H vs Q E hr h => ?_)
  obtain ⟨H0, e, s, m, dx, st, fr, FL, S, k, rfl, M, hz, qE, q⟩ := h
  refine ⟨_, (pss_cons (ps_if (pt_cmpR op_lt (pcb call_len_seq T.len (pa_cons (pe_fld (pv 0) rfl) pa_nil)) (pv 1) (nomark _)) (pss_one (ps_raise rfl (takes_of rfl rfl rfl rfl) (pStuck TS hr (pa_cons (pe_fld (pv 0) rfl) pa_nil)))) pss_nil)
    (pss_cons (sset 2 sc_Machine_take.nd (pe_slice sl_list (pe_fld (pv 0) rfl) (po_some (pe_op op_sub (pcb call_len_seq T.len (pa_cons (pe_fld (pv 0) rfl) pa_nil)) (pv 1))) po_none))
    (pss_cons (ps_fld (pv 0) (pe_slice sl_list (pe_fld (pv 0) rfl) po_none (po_some (pe_op op_sub (pcb call_len_seq T.len (pa_cons (pe_fld (pv 0) rfl) pa_nil)) (pv 1)))) rfl)
    (pss_one (ps_ret (pv 2)))))), ?_⟩
  have hlen : (S.stack.map V.int).length = S.stack.length := List.length_map ..
  refine ⟨_, rfl, m, C, dx, _, .ref st, rfl, M.ins, TM.cls, na_ K TM _ (by decide), rfl, st, _, rfl, .inl (SqL.of M.lst), _, rfl, _, _, rfl, rfl, _, rfl, if2 (fun c => ?_) (fun c => ?_)⟩
  · have c' := of_decide_eq_true c
    refine ⟨_, rfl, m, C, dx, _, _, rfl, M.ins, TM.cls, na_ K TM _ (by decide), rfl, ?_⟩
    refine stk_end fun d H2 x2 _ hd => qE (by omega) d H2 (M.ex.trans x2) hd
  · have c' := of_decide_eq_false c
    have hk : k ≤ S.stack.length := by omega
    refine ⟨_, rfl, m, C, dx, _, .ref st, rfl, M.ins, TM.cls, na_ K TM _ (by decide), rfl, ?_⟩
    refine ⟨_, rfl, m, C, dx, _, .ref st, rfl, M.ins, TM.cls, na_ K TM _ (by decide), rfl, st, _, rfl, .inl (SqL.of M.lst), _, rfl, _, _, rfl, rfl, _, rfl, st, _, rfl, SqL.of M.lst, ?_⟩
    intro p1 hp_p1
    generalize hG_p1 : upd _ p1 _ = H1
    obtain ⟨x1, g1⟩ := nw hp_p1 hG_p1
    rw [cut_lo rfl (by omega)] at g1
    have M1 := M.mono x1
    refine ⟨_, rfl, m, C, dx, _, .ref st, rfl, M1.ins, TM.cls, na_ K TM _ (by decide), rfl, _, rfl, m, C, dx, _, .ref st, rfl, M1.ins, TM.cls, na_ K TM _ (by decide), rfl, st, _, rfl, .inl (SqL.of M1.lst), _, rfl, _, _, rfl, rfl, _, rfl, st, _, rfl, SqL.of M1.lst, ?_⟩
    intro p2 hp2
    rw [cut_hi rfl (by omega)]
    refine ⟨_, rfl, m, C, dx, mfs e s st fr S, rfl, by rw [upd_ne (ne_of_none M1.ins hp2)]; exact M1.ins, TM.cls, na_ K TM _ (by decide), (show 7 < 1000 by decide), ?_⟩
    rw [pf_stack]
    have M2 := M1.stk (S' := { S with stack := lok S k }) hp2 rfl rfl
    have n1 : p1 ≠ m := fun z => by
      rw [z, M1.ins] at g1
      cases g1
    have n2 : p1 ≠ p2 := ne_of_none g1 hp2
    refine ⟨_, rfl, q hk _ p1 p2 M2 ?_ n2 ?_ ?_⟩
    · rw [upd_ne n1, upd_ne n2]
      exact g1
    · intro z
      rw [z, M.frl] at hp_p1
      cases hp_p1
    · cases z : H0 p1 with
      | none => rfl
      | some o =>
        rw [M.ex _ _ z] at hp_p1
        cases hp_p1
end

end M10
set_option Elab.async false
set_option linter.all false
set_option maxRecDepth 100000
set_option maxHeartbeats 4000000
namespace M10
open PySem PySem.Spec PyProof.Rows L2 Evl
theorem rev_last {α : Type} {l r : List α} {x : α} (h : l.reverse = x :: r) : l = r.reverse ++ [x] ∧ l.length = r.length + 1 ∧ l[l.length - 1]? = some x ∧ (∀ y, l.set (l.length - 1) y = r.reverse ++ [y]) ∧ l.dropLast = r.reverse := by
  have e : l = r.reverse ++ [x] := by
    have h2 := congrArg List.reverse h
    rw [List.reverse_reverse, List.reverse_cons] at h2
    exact h2
  have hl : l.length = r.length + 1 := by rw [e, List.length_append, List.length_reverse, List.length_singleton]
  have hr : l.length - 1 = r.reverse.length := by rw [hl, List.length_reverse]; omega
  refine ⟨e, hl, ?_, fun y => ?_, ?_⟩
  · rw [hr, e, List.getElem?_append_right (Nat.le_refl _), Nat.sub_self]
    rfl
  · rw [hr, e, List.set_append_right _ _ (Nat.le_refl _), Nat.sub_self]
    rfl
  · rw [e, List.dropLast_append_of_ne_nil (by simp)]
    simp
theorem ixN_last {n : Nat} (hl : 1 ≤ n) : ixN n (-1) = some (n - 1) := by
  unfold ixN
  rw [if_neg (by decide), if_pos (by omega)]
  congr 1
  omega
theorem atI_last {l : List V} {x : V} (h : l[l.length - 1]? = some x) (hl : 1 ≤ l.length) : atI l (-1) = some x := by
  unfold atI
  rw [ixN_last hl]
  exact h
def MX (H0 H : Hp) (C e s m : Addr) (S : MS) : Prop := ∃ dx st fr FL, MAt H0 H C e s m dx st fr FL S
def spComp (C CS : Addr) : Sp := fun vs H Q E => ∃ (H0 : Hp) (e s m : Addr) (S : MS) (k : K4), vs = [.ref m, .str k.s] ∧ MX H0 H C e s m S ∧ S.stack.length ≤ 900000 ∧ Vok S.stack ∧
  (S.stack.length < 2 → StkE E H0 CS S.at_) ∧ (∀ a b, upk S 2 = [a, b] → ∀ H', MX H0 H' C e s m (putM { S with stack := lok S 2 } S.at_ (opM k a b)) → Q .non H')
def spLeave (C CS : Addr) : Sp := fun vs H Q E => ∃ (H0 : Hp) (e s m : Addr) (S : MS) (es : List (Int × Int)) (is : List Ins), vs = [.ref m] ∧ MX H0 H C e s m S ∧ is[S.at_.toNat]? = some .back ∧
  (stepM es is S = .stuck → StkE E H0 CS S.at_) ∧ (stepM es is S = .fin → ∀ H', MX H0 H' C e s m S → Q (.bl true) H') ∧ (∀ S', stepM es is S = .go S' → ∀ H', MX H0 H' C e s m S' → Q (.bl false) H')
def spEnter (C CS : Addr) : Sp := fun vs H Q E => ∃ (H0 : Hp) (c e s m : Addr) (S : MS) (exs ixs : List V) (es : List (Int × Int)) (is : List Ins) (i : Ins) (kd : Str) (j : Int), vs = [.ref m, .str kd, .int j] ∧ MX H0 H C e s m S ∧ CodeAt H0 c e s exs ixs es is ∧ CodeOk es is ∧
  is[S.at_.toNat]? = some i ∧ (kd = "call" ∧ i = .call j ∨ kd = "tail" ∧ i = .tail j) ∧ 0 ≤ j ∧ j < (es.length : Int) ∧ S.stack.length ≤ 900000 ∧ S.up.length ≤ 900000 ∧
  (stepM es is S = .stuck → StkE E H0 CS S.at_) ∧ (∀ S', stepM es is S = .go S' → ∀ H', MX H0 H' C e s m S' → Q .non H')
section
variable {P : Program} {w : World} {K : PySem.W.Frag} {mg : Str → Option Value} {base : Heap}
theorem sc_Machine_compute : FnScope ["self", "kind", "first", "second"] ["self", "kind"] (defScope m_Machine_compute) := ⟨rfl, rfl, rfl, by decide +kernel, rfl, by decide +kernel, by decide +kernel⟩
theorem ok_compute {C CS : Addr} (D : DM K C "compute" "Machine.compute" m_Machine_compute ["self", "kind"]) (TM : Mcf K mg C) (T : Tb K mg) (c_take : Dm P w K mg base (L2.CX P w) 3 C "take" (spTake C CS)) (c_put : Dm P w K mg base (L2.CX P w) 1 C "put" (spPutM C)) (c_worked : Dn P w K mg base L2.CX0 1 "worked" spWorked) :
    Dm P w K mg base (L2.CX P w) 4 C "compute" (spComp C CS) := by
  refine D.okX sc_Machine_compute (fun vs H Q E h => by obtain ⟨H0, e, s, m, S, k, rfl, _⟩ := h; rfl) (fun f cdv A outer s H vs Q E hr h => ?_)
  obtain ⟨H0, e, s, m, S, k, rfl, ⟨dx, st, fr, FL, M⟩, hz, hv, qE, q⟩ := h
  refine ⟨_, (pss_cons (ps_asg (pe_mx TM.cls c_take hr pX (pv 0) (pa_cons pe_int pa_nil)) (pg_lst rfl (pgs_cons (gnm 2 sc_Machine_compute.nd) (pgs_cons (gnm 3 sc_Machine_compute.nd) pgs_nil))))
    (pss_one (ps_if (pt_cmpR op_eq (pv 1) pe_str (nomark _)) (pss_one (ps_expr (pe_mx TM.cls c_put hr pX (pv 0) (pa_cons (pe_ifExp (pt_cmpR op_lt (pv 2) (pv 3) (nomark _)) pe_int pe_int) pa_nil)))) (pss_one (ps_expr (pe_mx TM.cls c_put hr pX (pv 0) (pa_cons (pe_c0 c_worked hr (pa_cons (pv 1) (pa_cons (pv 2) (pa_cons (pv 3) pa_nil)))) pa_nil))))))), ?_⟩
  refine ⟨_, rfl, m, dx, _, rfl, M.ins, rfl, ?_⟩
  refine ⟨H0, e, s, m, dx, st, fr, FL, S, 2, rfl, M, by omega, qE, fun hk H1 p st' M1 hp n1 n2 n3 => ?_⟩
  have hl := upk_len hk
  match hu : upk S 2, hl with
  | [a, b], _ =>
    rw [hu] at hp
    have hd : Vok (upk S 2) := hv.drop
    rw [hu] at hd
    have ha := hd a List.mem_cons_self
    have hb := hd b (List.mem_cons_of_mem _ List.mem_cons_self)
    refine ⟨p, _, rfl, SqL.of hp, rfl, _, _, rfl, _, _, rfl, rfl, ?_⟩
    have fin : ∀ n, opM k a b = n → ∀ H2, MAt H0 H2 C e s m dx st' fr FL (putM { S with stack := lok S 2 } S.at_ n) → Q .non H2 := fun n hn H2 M2 => q a b hu H2 ⟨_, _, _, _, by rw [hn]; exact M2⟩
    have hz2 : (lok S 2).length < 1000000 := by
      have := lok_len (S := S) (k := 2)
      omega
    by_cases hk4 : k = .less
    · subst hk4
      refine ⟨_, rfl, rfl, _, rfl, ifT (by decide +kernel) ?_⟩
      refine ⟨_, rfl, m, dx, _, rfl, M1.ins, rfl, ?_⟩
      refine ⟨_, rfl, _, rfl, _, _, rfl, rfl, _, rfl, if2 (fun c => ?_) (fun c => ?_)⟩
      · have c' := of_decide_eq_true c
        exact ⟨H0, e, s, m, dx, st', fr, FL, _, 1, rfl, M1, hz2, fin 1 (by show (if a < b then (1 : Int) else 0) = 1; rw [if_pos c'])⟩
      · have c' := of_decide_eq_false c
        exact ⟨H0, e, s, m, dx, st', fr, FL, _, 0, rfl, M1, hz2, fin 0 (by show (if a < b then (1 : Int) else 0) = 0; rw [if_neg c'])⟩
    · refine ⟨_, rfl, rfl, _, rfl, ifF (by cases k <;> first | exact absurd rfl hk4 | decide +kernel) ?_⟩
      refine ⟨_, rfl, m, dx, _, rfl, M1.ins, rfl, ?_⟩
      refine ⟨_, rfl, _, rfl, _, rfl, k, a, b, rfl, ha.1, ha.2, hb.1, hb.2, ?_⟩
      exact ⟨H0, e, s, m, dx, st', fr, FL, _, wk k a b, rfl, M1, hz2, fin _ (by cases k <;> first | exact absurd rfl hk4 | rfl)⟩
end

end M10
set_option Elab.async false
set_option linter.all false
set_option maxRecDepth 100000
set_option maxHeartbeats 4000000
namespace M10
open PySem PySem.Spec PyProof.Rows L2 Evl
def stepI (es : List (Int × Int)) (S : MS) (i : Ins) : SR := match i with
    | .back => (match S.up with
      | [] => if S.stack.length = 1 then .fin else .stuck
      | r :: u => .go { S with at_ := r.1, up := u })
    | .call j => (match es[j.toNat]? with
      | none => .stuck
      | some e => if S.stack.length < e.2.toNat then .stuck else .go { S with at_ := e.1, stack := lok S e.2.toNat, up := (S.at_ + 1, upk S e.2.toNat) :: S.up, mf := max S.mf (S.up.length + 2) })
    | .tail j => (match es[j.toNat]? with
      | none => .stuck
      | some e => if S.stack.length < e.2.toNat then .stuck else (match S.up with
        | [] => .go { S with at_ := e.1, stack := lok S e.2.toNat, l0 := upk S e.2.toNat }
        | r :: u => .go { S with at_ := e.1, stack := lok S e.2.toNat, up := (r.1, upk S e.2.toNat) :: u }))
    | .jump a => .go { S with at_ := a }
    | .zero a => if S.stack.length < 1 then .stuck else .go { S with at_ := if upk S 1 = [0] then a else S.at_ + 1, stack := lok S 1 }
    | .push n => .go (putM S (S.at_ + 1) n)
    | .arg k => (match S.own[k.toNat]? with
      | none => .stuck
      | some v => .go (putM S (S.at_ + 1) v))
    | .op k => (match upk S 2 with
      | [a, b] => .go (putM { S with stack := lok S 2 } (S.at_ + 1) (opM k a b))
      | _ => .stuck)
theorem stepM_at {es : List (Int × Int)} {is : List Ins} {S : MS} {i : Ins} (h : is[S.at_.toNat]? = some i) : stepM es is S = stepI es S i := by
  unfold stepM
  rw [h]
  cases i <;> rfl
section
variable {P : Program} {w : World} {K : PySem.W.Frag} {mg : Str → Option Value} {base : Heap}
theorem sc_Machine_leave : FnScope ["self"] ["self"] (defScope m_Machine_leave) := ⟨rfl, rfl, rfl, by decide +kernel, rfl, by decide +kernel, by decide +kernel⟩
theorem ok_leave {C CS : Addr} (D : DM K C "leave" "Machine.leave" m_Machine_leave ["self"]) (TM : Mcf K mg C) (TS : Stf K mg CS) (T : Tb K mg) : Dm P w K mg base (L2.CX P w) 3 C "leave" (spLeave C CS) := by
  refine D.okX sc_Machine_leave (fun vs H Q E h => by obtain ⟨H0, e, s, m, S, es, is, rfl, _⟩ := h; rfl) (fun f cdv A outer s H vs Q E hr h => ?_)
  obtain ⟨H0, e, s, m, S, es, is, rfl, ⟨dx, st, fr, FL, M⟩, hi, qE, qF, qG⟩ := h
  refine ⟨_, (pss_cons (ps_if (pt_cmpR op_eq (pcb call_len_seq T.len (pa_cons (pe_fld (pv 0) rfl) pa_nil)) pe_int (nomark _)) (pss_cons (ps_if (pt_cmpR op_ne (pcb call_len_seq T.len (pa_cons (pe_fld (pv 0) rfl) pa_nil)) pe_int (nomark _)) (pss_one (ps_raise rfl (takes_of rfl rfl rfl rfl) (pStuck TS hr (pa_cons (pe_fld (pv 0) rfl) pa_nil)))) pss_nil)
    (pss_one (ps_ret pe_bl))) pss_nil)
    (pss_cons (ps_fld (pv 0) (pe_ix ix_tup (pe_bm0 PySem.F.plainAttrs_list PySem.F.slot_list_pop PySem.F.type_list_pop mt_pop (pe_fld (pv 0) rfl)) pe_int (fun _ _ => rfl)) rfl)
    (pss_one (ps_ret pe_bl)))), ?_⟩
  rw [stepM_at hi] at qE qF qG
  unfold stepI at qE qF qG
  have hfl := M.frs.len
  rw [List.length_reverse] at hfl
  have hsl : (S.stack.map V.int).length = S.stack.length := List.length_map ..
  refine ⟨_, rfl, m, C, dx, _, .ref fr, rfl, M.ins, TM.cls, na_ K TM _ (by decide), rfl, fr, _, rfl, .inl (SqL.of M.frl), rfl, _, rfl, if2 (fun c => ?_) (fun c => ?_)⟩
  · have c' := V.int.inj (of_decide_eq_true c)
    have hu : S.up = [] := List.length_eq_zero_iff.mp (by omega)
    rw [hu] at qE qF qG
    refine ⟨_, rfl, m, C, dx, _, .ref st, rfl, M.ins, TM.cls, na_ K TM _ (by decide), rfl, st, _, rfl, .inl (SqL.of M.lst), rfl, _, rfl, if2 (fun c => ?_) (fun c => ?_)⟩
    · have c2 : ¬ S.stack.length = 1 := fun z => by
        rw [hsl, z] at c
        exact absurd c (by decide)
      refine ⟨_, rfl, m, C, dx, _, _, rfl, M.ins, TM.cls, na_ K TM _ (by decide), rfl, ?_⟩
      refine stk_end fun d H2 x2 _ hd => qE (by simp only [if_neg c2]) d H2 (M.ex.trans x2) hd
    · have c2 : S.stack.length = 1 := Decidable.byContradiction fun z => by
        have z2 : decide (V.int ((S.stack.map V.int).length : Nat) = V.int 1) = false := decide_eq_false fun y => z (by have := V.int.inj y; omega)
        rw [z2] at c
        exact absurd c (by decide)
      exact qF (by simp only [if_pos c2]) _ ⟨_, _, _, _, M⟩
  · have hu : S.up ≠ [] := fun z => by
      rw [z] at hfl
      rw [hfl] at c
      exact absurd c (by decide)
    obtain ⟨r, u, hru⟩ := List.exists_cons_of_ne_nil hu
    rw [hru] at qE qF qG
    obtain ⟨g, b, v, rr, h1, h2, h3, h4, h5, h6, h7⟩ := M.frs.hd
    obtain ⟨hv, hrr⟩ := h6 r u hru
    obtain ⟨l1, l2, l3, l4, l5⟩ := rev_last h1
    have M1 := M.frm (FL' := FL.dropLast) (S' := { S with up := u }) (by rw [l5, List.reverse_reverse]; exact hrr) rfl rfl rfl rfl
    have n1 : g ≠ fr := fun z => by
      rw [z, M.frl] at h2
      cases h2
    have h2' : (upd H fr (.lst FL.dropLast)) g = some (.tup [v, .ref b]) := by
      rw [upd_ne n1]
      exact h2
    generalize hG : upd H fr (.lst FL.dropLast) = H1 at M1 h2'
    refine ⟨_, rfl, m, C, dx, _, .ref fr, rfl, M.ins, TM.cls, na_ K TM _ (by decide), rfl, .inl ⟨rfl, _, SqL.of M.frl⟩, fr, _, _, rfl, rfl, M.frl, l3, ?_⟩
    rw [hG]
    refine ⟨g, _, _, v, rfl, rfl, SqT.of h2', rfl, _, rfl, m, C, dx, mfs e s st fr { S with up := u }, rfl, M1.ins, TM.cls, na_ K TM _ (by decide), (show 7 < 1000 by decide), ?_⟩
    rw [hv, pf_at]
    have M2 := M1.fld (S' := { S with up := u, at_ := r.1 }) rfl rfl rfl
    exact qG _ rfl _ ⟨_, _, _, _, M2⟩
theorem sc_Machine_enter : FnScope ["self", "kind", "number", "address", "many", "lates"] ["self", "kind", "number"] (defScope m_Machine_enter) := ⟨rfl, rfl, rfl, by decide +kernel, rfl, by decide +kernel, by decide +kernel⟩
theorem ok_enter {C CS : Addr} (D : DM K C "enter" "Machine.enter" m_Machine_enter ["self", "kind", "number"]) (TM : Mcf K mg C) (T : Tb K mg) (c_take : Dm P w K mg base (L2.CX P w) 3 C "take" (spTake C CS)) : Dm P w K mg base (L2.CX P w) 4 C "enter" (spEnter C CS) := by
  refine D.okX sc_Machine_enter (fun vs H Q E h => by obtain ⟨H0, c, e, s, m, S, exs, ixs, es, is, i, kd, j, rfl, _⟩ := h; rfl) (fun f cdv A outer s H vs Q E hr h => ?_)
  obtain ⟨H0, c, e, s, m, S, exs, ixs, es, is, i, kd, j, rfl, ⟨dx, st, fr, FL, M⟩, hC, hok, hi, hk, hj0, hj1, hz1, hz2, qE, qG⟩ := h
  refine ⟨_, (pss_cons (ps_asg (pe_ix ix_tup (pe_fld (pv 0) rfl) (pv 2) (fun _ _ => rfl)) (pg_tup rfl (pgs_cons (gnm 3 sc_Machine_enter.nd) (pgs_cons (gnm 4 sc_Machine_enter.nd) pgs_nil))))
    (pss_cons (sset 5 sc_Machine_enter.nd (pe_mx TM.cls c_take hr pX (pv 0) (pa_cons (pv 4) pa_nil)))
    (pss_cons (ps_if (pt_cmpR op_eq (pv 1) pe_str (nomark _)) (pss_cons (ps_expr (pe_bm PySem.F.plainAttrs_list PySem.F.slot_list_append PySem.F.type_list_append mt_append (pe_fld (pv 0) rfl) (pa_cons (pe_tup (pa_cons (pe_op op_add (pe_fld (pv 0) rfl) pe_int) (pa_cons (pv 5) pa_nil))) pa_nil)))
    (pss_one (ps_fld (pv 0) (pcb (call_max2 rfl) T.max (pa_cons (pe_fld (pv 0) rfl) (pa_cons (pcb call_len_seq T.len (pa_cons (pe_fld (pv 0) rfl) pa_nil)) pa_nil))) rfl))) (pss_one (ps_asg (pe_tup (pa_cons (pe_ix ix_tup (pe_ix ix_list (pe_fld (pv 0) rfl) (pe_un un_neg pe_int) (fun _ _ => rfl)) pe_int (fun _ _ => rfl)) (pa_cons (pv 5) pa_nil))) (pg_sub (pe_fld (pv 0) rfl) (pe_un un_neg pe_int) set_list))))
    (pss_one (ps_fld (pv 0) (pv 3) rfl))))), ?_⟩
  rw [stepM_at hi] at qE qG
  have hfl := M.frs.len
  rw [List.length_reverse] at hfl
  obtain ⟨en, hen⟩ : ∃ en, es[j.toNat]? = some en := ⟨_, List.getElem?_eq_getElem (by omega)⟩
  have heo := hok.ent en (List.mem_of_getElem? hen)
  have hC1 := hC.mono (Tx.of M.ex)
  obtain ⟨ea, hea1, hea2⟩ := hC1.es.get hen
  have hjj : ((j.toNat : Nat) : Int) = j := by omega
  have hea3 : atI exs j = some (.ref ea) := by
    have := atI_nat hea1
    rw [hjj] at this
    exact this
  refine ⟨_, rfl, m, C, dx, _, .ref e, rfl, M.ins, TM.cls, na_ K TM _ (by decide), rfl, _, rfl, e, _, _, _, rfl, rfl, SqT.of hC1.e, hea3, ?_⟩
  refine ⟨ea, _, rfl, SqT.of hea2, rfl, _, _, rfl, _, _, rfl, rfl, ?_⟩
  have hmn : en.2 = ((en.2.toNat : Nat) : Int) := by omega
  refine ⟨_, rfl, m, dx, _, rfl, M.ins, rfl, _, rfl, ?_⟩
  refine ⟨H0, e, s, m, dx, st, fr, FL, S, en.2.toNat, by rw [← hmn], M, by omega, fun hlt => qE ?_, fun hle H1 p st' M1 hp n1 n2 n3 => ?_⟩
  · rcases hk with ⟨_, rfl⟩ | ⟨_, rfl⟩
    · simp only [stepI, hen, if_pos hlt]
    · simp only [stepI, hen, if_pos hlt]
  have hlt : ¬ S.stack.length < en.2.toNat := by omega
  rcases hk with ⟨rfl, rfl⟩ | ⟨rfl, rfl⟩
  · refine ⟨_, rfl, rfl, _, rfl, ifT (by decide +kernel) ?_⟩
    refine ⟨_, rfl, m, C, dx, _, .ref fr, rfl, M1.ins, TM.cls, na_ K TM _ (by decide), rfl, .inl ⟨rfl, _, SqL.of M1.frl⟩, _, rfl, m, C, dx, _, .int S.at_, rfl, M1.ins, TM.cls, na_ K TM _ (by decide), rfl, _, _, rfl, rfl, _, rfl, z2, ?_⟩
    intro p2 hp_p2
    generalize hG_p2 : upd _ p2 _ = H2
    obtain ⟨x2, g2⟩ := nw hp_p2 hG_p2
    have M2 := M1.mono x2
    refine ⟨fr, FL, .ref p2, rfl, rfl, M2.frl, sz' (by omega), ?_⟩
    have M3 := M2.frm (FL' := FL ++ [.ref p2]) (S' := { S with stack := lok S en.2.toNat, up := (S.at_ + 1, upk S en.2.toNat) :: S.up }) (by
      rw [List.reverse_append]
      exact ⟨p2, p, FL.reverse, rfl, g2, x2 _ _ hp, n1, n2, M2.frs⟩) rfl rfl rfl rfl
    generalize upd H2 fr (.lst (FL ++ [.ref p2])) = H3 at M3
    refine ⟨_, rfl, m, C, dx, _, .int S.mf, rfl, M3.ins, TM.cls, na_ K TM _ (by decide), rfl, _, rfl, m, C, dx, _, .ref fr, rfl, M3.ins, TM.cls, na_ K TM _ (by decide), rfl, fr, _, rfl, .inl (SqL.of M3.frl), _, _, rfl, _, rfl, m, C, dx, mfs e s st' fr { S with stack := lok S en.2.toNat, up := (S.at_ + 1, upk S en.2.toNat) :: S.up }, rfl, M3.ins, TM.cls, na_ K TM _ (by decide), (show 7 < 1000 by decide), ?_⟩
    rw [max2, pf_mf]
    have e1 : (((FL ++ [V.ref p2]).length : Nat) : Int) = S.up.length + 2 := by rw [List.length_append, List.length_singleton, hfl] <;> omega
    rw [e1]
    have M4 := M3.fld (S' := { S with stack := lok S en.2.toNat, up := (S.at_ + 1, upk S en.2.toNat) :: S.up, mf := max S.mf (S.up.length + 2) }) rfl rfl rfl
    generalize upd H3 m (.ins C dx (mfs e s st' fr { S with stack := lok S en.2.toNat, up := (S.at_ + 1, upk S en.2.toNat) :: S.up, mf := max S.mf (S.up.length + 2) })) = H4 at M4
    refine ⟨_, rfl, _, rfl, m, C, dx, mfs e s st' fr { S with stack := lok S en.2.toNat, up := (S.at_ + 1, upk S en.2.toNat) :: S.up, mf := max S.mf (S.up.length + 2) }, rfl, M4.ins, TM.cls, na_ K TM _ (by decide), (show 7 < 1000 by decide), ?_⟩
    rw [pf_at]
    exact qG _ (by simp only [stepI, hen, if_neg hlt]) _ ⟨_, _, _, _, M4.fld (S' := { S with at_ := en.1, stack := lok S en.2.toNat, up := (S.at_ + 1, upk S en.2.toNat) :: S.up, mf := max S.mf (S.up.length + 2) }) rfl rfl rfl⟩
  · refine ⟨_, rfl, rfl, _, rfl, ifF (by decide +kernel) ?_⟩
    obtain ⟨g, b, v, rr, h1, h2, h3, h4, h5, h6, h7⟩ := M1.frs.hd (S := { S with stack := lok S en.2.toNat })
    obtain ⟨l1, l2, l3, l4, l5⟩ := rev_last h1
    refine ⟨_, rfl, m, C, dx, _, .ref fr, rfl, M1.ins, TM.cls, na_ K TM _ (by decide), rfl, _, rfl, fr, FL, _, _, rfl, rfl, SqL.of M1.frl, atI_last l3 (by omega), g, _, _, v, rfl, rfl, SqT.of h2, rfl, _, rfl, z2, ?_⟩
    intro p2 hp_p2
    generalize hG_p2 : upd _ p2 _ = H2
    obtain ⟨x2, g2⟩ := nw hp_p2 hG_p2
    have M2 := M1.mono x2
    refine ⟨_, rfl, m, C, dx, _, .ref fr, rfl, M2.ins, TM.cls, na_ K TM _ (by decide), rfl, _, rfl, fr, FL, _, FL.length - 1, rfl, rfl, M2.frl, ixN_last (by omega), ?_⟩
    cases hu : S.up with
    | nil =>
      obtain ⟨hv, hrr⟩ := h7 hu
      have M3 := M2.frm (FL' := FL.set (FL.length - 1) (.ref p2)) (S' := { S with stack := lok S en.2.toNat, l0 := upk S en.2.toNat }) (by
        rw [l4, List.reverse_append]
        show FrR H2 st' fr _ S.up _
        rw [hu]
        refine ⟨p2, p, ?_, by rw [hv] at g2; exact g2, x2 _ _ hp, n1, n2⟩
        rw [hrr]
        rfl) rfl rfl rfl rfl
      generalize upd H2 fr (.lst (FL.set (FL.length - 1) (.ref p2))) = H3 at M3
      refine ⟨_, rfl, _, rfl, m, C, dx, mfs e s st' fr { S with stack := lok S en.2.toNat, l0 := upk S en.2.toNat }, rfl, M3.ins, TM.cls, na_ K TM _ (by decide), (show 7 < 1000 by decide), ?_⟩
      rw [pf_at]
      exact qG _ (by simp only [stepI, hen, if_neg hlt, hu]) _ ⟨_, _, _, _, M3.fld (S' := { S with at_ := en.1, stack := lok S en.2.toNat, l0 := upk S en.2.toNat }) rfl rfl rfl⟩
    | cons r u =>
      obtain ⟨hv, hrr⟩ := h6 r u hu
      have M3 := M2.frm (FL' := FL.set (FL.length - 1) (.ref p2)) (S' := { S with stack := lok S en.2.toNat, up := (r.1, upk S en.2.toNat) :: u }) (by
        rw [l4, List.reverse_append, List.reverse_reverse]
        refine ⟨p2, p, rr, rfl, by rw [hv] at g2; exact g2, x2 _ _ hp, n1, n2, ?_⟩
        refine FrR.mono (st := st') (fr := fr) (fun b o a1 a2 ni h => ?_) ⟨_, M1.lst⟩ ⟨_, M1.frl⟩ hrr
        exact ⟨x2 _ _ h, .inl a1⟩) rfl rfl rfl rfl
      generalize upd H2 fr (.lst (FL.set (FL.length - 1) (.ref p2))) = H3 at M3
      refine ⟨_, rfl, _, rfl, m, C, dx, mfs e s st' fr { S with stack := lok S en.2.toNat, up := (r.1, upk S en.2.toNat) :: u }, rfl, M3.ins, TM.cls, na_ K TM _ (by decide), (show 7 < 1000 by decide), ?_⟩
      rw [pf_at]
      exact qG _ (by simp only [stepI, hen, if_neg hlt, hu]) _ ⟨_, _, _, _, M3.fld (S' := { S with at_ := en.1, stack := lok S en.2.toNat, up := (r.1, upk S en.2.toNat) :: u }) rfl rfl rfl⟩
end

end M10
set_option Elab.async false
set_option linter.all false
set_option maxRecDepth 100000
set_option maxHeartbeats 4000000
namespace M10
open PySem PySem.Spec PyProof.Rows L2 Evl
/-- the plain instructions -/
def stepP (S : MS) : Ins → SR
  | .push n => .go (putM S S.at_ n)
  | .arg k => (match S.own[k.toNat]? with
      | none => .stuck
      | some v => .go (putM S S.at_ v))
  | .op k => (match upk S 2 with
      | [a, b] => .go (putM { S with stack := lok S 2 } S.at_ (opM k a b))
      | _ => .stuck)
  | _ => .fin
def Ins.isP : Ins → Bool
  | .push _ => true
  | .arg _ => true
  | .op _ => true
  | _ => false
def spPStep (C CS : Addr) : Sp := fun vs H Q E => ∃ (H0 : Hp) (e s m : Addr) (S : MS) (v : V) (i : Ins), vs = [.ref m, v] ∧ MX H0 H C e s m S ∧ InsAt H0 v i ∧ i.isP = true ∧ (∀ k, i = .arg k → 0 ≤ k) ∧ S.stack.length ≤ 900000 ∧ Vok S.stack ∧
  (stepP S i = .stuck → StkE E H0 CS S.at_) ∧ (∀ S', stepP S i = .go S' → ∀ H', MX H0 H' C e s m S' → Q .non H')
section
variable {P : Program} {w : World} {K : PySem.W.Frag} {mg : Str → Option Value} {base : Heap}
theorem sc_Machine_plain_step : FnScope ["self", "one"] ["self", "one"] (defScope m_Machine_plain_step) := ⟨rfl, rfl, rfl, by decide +kernel, rfl, by decide +kernel, by decide +kernel⟩
theorem ok_pstep {C CS : Addr} (D : DM K C "plain_step" "Machine.plain_step" m_Machine_plain_step ["self", "one"]) (TM : Mcf K mg C) (TS : Stf K mg CS) (T : Tb K mg) (c_put : Dm P w K mg base (L2.CX P w) 1 C "put" (spPutM C)) (c_compute : Dm P w K mg base (L2.CX P w) 4 C "compute" (spComp C CS)) :
    Dm P w K mg base (L2.CX P w) 5 C "plain_step" (spPStep C CS) := by
  refine D.okX sc_Machine_plain_step (fun vs H Q E h => by obtain ⟨H0, e, s, m, S, v, i, rfl, _⟩ := h; rfl) (fun f cdv A outer s H vs Q E hr h => ?_)
  obtain ⟨H0, e, s, m, S, v, i, rfl, ⟨dx, st, fr, FL, M⟩, ⟨a, rfl, ha0⟩, hP, hk0, hz, hv, qE, qG⟩ := h
  have hr2 := hr.mono (show 2 ≤ 4 by decide)
  have ha := M.ex _ _ ha0
  refine ⟨_, (pss_one (ps_if (pt_cmpR op_eq (pe_ix ix_tup (pv 1) pe_int (fun _ _ => rfl)) pe_str (nomark _)) (pss_one (ps_expr (pe_mx TM.cls c_put hr pX (pv 0) (pa_cons (pe_ix ix_tup (pv 1) pe_int (fun _ _ => rfl)) pa_nil)))) (pss_one (ps_if (pt_cmpR op_eq (pe_ix ix_tup (pv 1) pe_int (fun _ _ => rfl)) pe_str (nomark _)) (pss_cons (ps_if (pt_cmpR op_ge (pe_ix ix_tup (pv 1) pe_int (fun _ _ => rfl)) (pcb call_len_seq T.len (pa_cons (pe_ix ix_tup (pe_ix ix_list (pe_fld (pv 0) rfl) (pe_un un_neg pe_int) (fun _ _ => rfl)) pe_int (fun _ _ => rfl)) pa_nil)) (nomark _)) (pss_one (ps_raise rfl (takes_of rfl rfl rfl rfl) (pStuck TS hr2 (pa_cons (pe_fld (pv 0) rfl) pa_nil)))) pss_nil)
    (pss_one (ps_expr (pe_mx TM.cls c_put hr pX (pv 0) (pa_cons (pe_ix ix_list (pe_ix ix_tup (pe_ix ix_list (pe_fld (pv 0) rfl) (pe_un un_neg pe_int) (fun _ _ => rfl)) pe_int (fun _ _ => rfl)) (pe_ix ix_tup (pv 1) pe_int (fun _ _ => rfl)) (fun _ _ => rfl)) pa_nil))))) (pss_one (ps_expr (pe_mx TM.cls c_compute hr pX (pv 0) (pa_cons (pe_ix ix_tup (pv 1) pe_int (fun _ _ => rfl)) pa_nil)))))))), ?_⟩
  cases i with
  | push n =>
    refine ⟨_, rfl, a, _, _, _, rfl, rfl, SqT.of ha, rfl, rfl, _, rfl, ifT (by decide +kernel) ?_⟩
    refine ⟨_, rfl, m, dx, _, rfl, M.ins, rfl, _, rfl, a, _, _, _, rfl, rfl, SqT.of ha, rfl, ?_⟩
    exact ⟨H0, e, s, m, dx, st, fr, FL, S, n, rfl, M, by omega, fun H1 M1 => qG _ rfl H1 ⟨_, _, _, _, M1⟩⟩
  | arg k =>
    refine ⟨_, rfl, a, _, _, _, rfl, rfl, SqT.of ha, rfl, rfl, _, rfl, ifF (by decide +kernel) ?_⟩
    refine ⟨_, rfl, a, _, _, _, rfl, rfl, SqT.of ha, rfl, rfl, _, rfl, ifT (by decide +kernel) ?_⟩
    obtain ⟨g, b, v, rr, h1, h2, h3, h4, h5, h6, h7⟩ := M.frs.hd
    obtain ⟨l1, l2, l3, l4, l5⟩ := rev_last h1
    have hk := hk0 k rfl
    have hkk : ((k.toNat : Nat) : Int) = k := by omega
    have hol : (S.own.map V.int).length = S.own.length := List.length_map ..
    refine ⟨_, rfl, a, _, _, _, rfl, rfl, SqT.of ha, rfl, _, rfl, m, C, dx, _, .ref fr, rfl, M.ins, TM.cls, na_ K TM _ (by decide), rfl, _, rfl, fr, FL, _, _, rfl, rfl, SqL.of M.frl, atI_last l3 (by omega), g, _, _, _, rfl, rfl, SqT.of h2, rfl, b, _, rfl, .inl (SqL.of h3), _, _, rfl, rfl, _, rfl, if2 (fun c => ?_) (fun c => ?_)⟩
    · have c' := of_decide_eq_true c
      refine ⟨_, rfl, m, C, dx, _, _, rfl, M.ins, TM.cls, na_ K TM _ (by decide), rfl, ?_⟩
      have e1 : S.own[k.toNat]? = none := List.getElem?_eq_none (by omega)
      refine stk_end fun d H2 x2 _ hd => qE (by simp only [stepP, e1]) d H2 (M.ex.trans x2) hd
    · have c' := of_decide_eq_false c
      obtain ⟨n, hn⟩ : ∃ n, S.own[k.toNat]? = some n := ⟨_, List.getElem?_eq_getElem (by omega)⟩
      have hat : atI (S.own.map V.int) k = some (.int n) := by
        rw [← hkk]
        exact atI_nat (by rw [List.getElem?_map, hn]; rfl)
      refine ⟨_, rfl, m, dx, _, rfl, M.ins, rfl, _, rfl, m, C, dx, _, .ref fr, rfl, M.ins, TM.cls, na_ K TM _ (by decide), rfl, _, rfl, fr, FL, _, _, rfl, rfl, SqL.of M.frl, atI_last l3 (by omega), g, _, _, _, rfl, rfl, SqT.of h2, rfl, _, rfl, a, _, _, _, rfl, rfl, SqT.of ha, rfl, b, _, _, _, rfl, rfl, SqL.of h3, hat, ?_⟩
      exact ⟨H0, e, s, m, dx, st, fr, FL, S, n, rfl, M, by omega, fun H1 M1 => qG _ (by simp only [stepP, hn]) H1 ⟨_, _, _, _, M1⟩⟩
  | op k4 =>
    refine ⟨_, rfl, a, _, _, _, rfl, rfl, SqT.of ha, rfl, rfl, _, rfl, ifF (by cases k4 <;> decide +kernel) ?_⟩
    refine ⟨_, rfl, a, _, _, _, rfl, rfl, SqT.of ha, rfl, rfl, _, rfl, ifF (by cases k4 <;> decide +kernel) ?_⟩
    refine ⟨_, rfl, m, dx, _, rfl, M.ins, rfl, _, rfl, a, _, _, _, rfl, rfl, SqT.of ha, rfl, ?_⟩
    refine ⟨H0, e, s, m, S, k4, rfl, ⟨_, _, _, _, M⟩, hz, hv, fun hlt => qE ?_, fun x y hu H1 M1 => qG _ (by simp only [stepP, hu]) H1 M1⟩
    have hl : (upk S 2).length < 2 := by
      show (S.stack.drop (S.stack.length - 2)).length < 2
      rw [List.length_drop]
      omega
    match hu : upk S 2, hl with
    | [], _ => simp only [stepP, hu]
    | [x], _ => simp only [stepP, hu]
  | back => cases hP
  | jump x => cases hP
  | zero x => cases hP
  | call x => cases hP
  | tail x => cases hP
end

end M10
set_option Elab.async false
set_option linter.all false
set_option maxRecDepth 100000
set_option maxHeartbeats 4000000
namespace M10
open PySem PySem.Spec PyProof.Rows L2 Evl
def Ins.tag : Ins → Str
  | .push _ => "push"
  | .arg _ => "arg"
  | .op k => k.s
  | .back => "back"
  | .jump _ => "jump"
  | .zero _ => "zero"
  | .call _ => "call"
  | .tail _ => "tail"
theorem Ins.v0 (i : Ins) : atI i.v 0 = some (.str i.tag) := by cases i <;> rfl
theorem tagB {i : Ins} (h : i ≠ .back) : decide (V.str i.tag = V.str "back") = false := by
  cases i with
  | back => exact absurd rfl h
  | op k => cases k <;> decide +kernel
  | _ => exact sne (by simp only [Ins.tag] <;> decide +kernel)
theorem tagP {i : Ins} (h : i.isP = true) : decide (V.str i.tag = V.str "jump") = false ∧ decide (V.str i.tag = V.str "zero") = false := by
  cases i with
  | op k => cases k <;> decide +kernel
  | push n => exact ⟨sne (by simp only [Ins.tag] <;> decide +kernel), sne (by simp only [Ins.tag] <;> decide +kernel)⟩
  | arg n => exact ⟨sne (by simp only [Ins.tag] <;> decide +kernel), sne (by simp only [Ins.tag] <;> decide +kernel)⟩
  | _ => cases h
def Ins.isCT : Ins → Bool
  | .call _ => true
  | .tail _ => true
  | _ => false
theorem tagI (i : Ins) : inV (.str i.tag) [.str "call", .str "tail"] = i.isCT := by
  cases i with
  | op k => cases k <;> decide +kernel
  | _ => simp only [Ins.tag, Ins.isCT] <;> decide +kernel
theorem stepP_I {es : List (Int × Int)} {S : MS} {i : Ins} (h : i.isP = true) : (stepP S i = .stuck → stepI es S i = .stuck) ∧ ∀ S', stepP S i = .go S' → stepI es S i = .go { S' with at_ := S.at_ + 1 } ∧ S'.at_ = S.at_ := by
  cases i with
  | push n => exact ⟨fun z => (by cases z), fun S' z => (by cases z; exact ⟨rfl, rfl⟩)⟩
  | arg k =>
    unfold stepP stepI
    simp only
    cases S.own[k.toNat]? with
    | none => exact ⟨fun _ => rfl, fun S' z => (by cases z)⟩
    | some v => exact ⟨fun z => (by cases z), fun S' z => (by cases z; exact ⟨rfl, rfl⟩)⟩
  | op k =>
    unfold stepP stepI
    simp only
    match upk S 2 with
    | [] => exact ⟨fun _ => rfl, fun S' z => (by cases z)⟩
    | [_] => exact ⟨fun _ => rfl, fun S' z => (by cases z)⟩
    | [a, b] => exact ⟨fun z => (by cases z), fun S' z => (by cases z; exact ⟨rfl, rfl⟩)⟩
    | _ :: _ :: _ :: _ => exact ⟨fun _ => rfl, fun S' z => (by cases z)⟩
  | back => cases h
  | jump x => cases h
  | zero x => cases h
  | call x => cases h
  | tail x => cases h
def spStep (C CS : Addr) : Sp := fun vs H Q E => ∃ (H0 : Hp) (c e s m : Addr) (S : MS) (exs ixs : List V) (es : List (Int × Int)) (is : List Ins) (N : Nat), vs = [.ref m] ∧ MX H0 H C e s m S ∧ CodeAt H0 c e s exs ixs es is ∧ CodeOk es is ∧ WS N S ∧ N ≤ 900000 ∧
  (stepM es is S = .stuck → StkE E H0 CS S.at_) ∧ (stepM es is S = .fin → ∀ H', MX H0 H' C e s m S → Q (.bl true) H') ∧ (∀ S', stepM es is S = .go S' → ∀ H', MX H0 H' C e s m S' → Q (.bl false) H')
theorem MX.mono {H0 H H' : Hp} {C e s m : Addr} {S : MS} (h : MX H0 H C e s m S) (x : Ex H H') : MX H0 H' C e s m S := by
  obtain ⟨dx, st, fr, FL, M⟩ := h
  exact ⟨_, _, _, _, M.mono x⟩
section
variable {P : Program} {w : World} {K : PySem.W.Frag} {mg : Str → Option Value} {base : Heap}
theorem sc_Machine_step : FnScope ["self", "one"] ["self"] (defScope m_Machine_step) := ⟨rfl, rfl, rfl, by decide +kernel, rfl, by decide +kernel, by decide +kernel⟩
theorem ok_step {C CS : Addr} (D : DM K C "step" "Machine.step" m_Machine_step ["self"]) (TM : Mcf K mg C) (TS : Stf K mg CS) (T : Tb K mg) (c_leave : Dm P w K mg base (L2.CX P w) 3 C "leave" (spLeave C CS)) (c_enter : Dm P w K mg base (L2.CX P w) 4 C "enter" (spEnter C CS)) (c_take : Dm P w K mg base (L2.CX P w) 3 C "take" (spTake C CS)) (c_plain_step : Dm P w K mg base (L2.CX P w) 5 C "plain_step" (spPStep C CS)) :
    Dm P w K mg base (L2.CX P w) 6 C "step" (spStep C CS) := by
  refine D.okX sc_Machine_step (fun vs H Q E h => by obtain ⟨H0, c, e, s, m, S, exs, ixs, es, is, N, rfl, _⟩ := h; rfl) (fun f cdv A outer s H vs Q E hr h => ?_)
  obtain ⟨H0, c, e, s, m, S, exs, ixs, es, is, N, rfl, ⟨dx, st, fr, FL, M⟩, hC, hok, hW, hN, qE, qF, qG⟩ := h
  have hr2 := hr.mono (show 2 ≤ 5 by decide)
  have hC1 := hC.mono (Tx.of M.ex)
  have hli := hC1.is.length
  have ha0 := hW.a0
  have haa : ((S.at_.toNat : Nat) : Int) = S.at_ := by omega
  have hsn := hW.sn
  have hun := hW.un
  refine ⟨_, (pss_cons (ps_if (pt_cmpR op_ge (pe_fld (pv 0) rfl) (pcb call_len_seq T.len (pa_cons (pe_fld (pv 0) rfl) pa_nil)) (nomark _)) (pss_one (ps_raise rfl (takes_of rfl rfl rfl rfl) (pStuck TS hr2 (pa_cons (pe_fld (pv 0) rfl) pa_nil)))) pss_nil)
    (pss_cons (sset 1 sc_Machine_step.nd (pe_ix ix_tup (pe_fld (pv 0) rfl) (pe_fld (pv 0) rfl) (fun _ _ => rfl)))
    (pss_cons (ps_if (pt_cmpR op_eq (pe_ix ix_tup (pv 1) pe_int (fun _ _ => rfl)) pe_str (nomark _)) (pss_one (ps_ret (pe_mx0 TM.cls c_leave hr pX (pv 0)))) pss_nil)
    (pss_cons (ps_if (pt_cmpR op_in_seq (pe_ix ix_tup (pv 1) pe_int (fun _ _ => rfl)) (pe_lst (pa_cons pe_str (pa_cons pe_str pa_nil))) rfl) (pss_one (ps_expr (pe_mx TM.cls c_enter hr pX (pv 0) (pa_cons (pe_ix ix_tup (pv 1) pe_int (fun _ _ => rfl)) (pa_cons (pe_ix ix_tup (pv 1) pe_int (fun _ _ => rfl)) pa_nil))))) (pss_one (ps_if (pt_cmpR op_eq (pe_ix ix_tup (pv 1) pe_int (fun _ _ => rfl)) pe_str (nomark _)) (pss_one (ps_fld (pv 0) (pe_ix ix_tup (pv 1) pe_int (fun _ _ => rfl)) rfl)) (pss_one (ps_if (pt_cmpR op_eq (pe_ix ix_tup (pv 1) pe_int (fun _ _ => rfl)) pe_str (nomark _)) (pss_one (ps_fld (pv 0) (pe_ifExp (pt_truth (pe_ix ix_list (pe_mx TM.cls c_take hr pX (pv 0) (pa_cons pe_int pa_nil)) pe_int (fun _ _ => rfl)) (by intro _; rfl)) (pe_op op_add (pe_fld (pv 0) rfl) pe_int) (pe_ix ix_tup (pv 1) pe_int (fun _ _ => rfl))) rfl)) (pss_cons (ps_expr (pe_mx TM.cls c_plain_step hr pX (pv 0) (pa_cons (pv 1) pa_nil)))
    (pss_one (ps_fld (pv 0) (pe_op op_add (pe_fld (pv 0) rfl) pe_int) rfl))))))))
    (pss_one (ps_ret pe_bl)))))), ?_⟩
  refine ⟨_, rfl, m, C, dx, _, .int S.at_, rfl, M.ins, TM.cls, na_ K TM _ (by decide), rfl, _, rfl, m, C, dx, _, .ref s, rfl, M.ins, TM.cls, na_ K TM _ (by decide), rfl, s, _, rfl, .inr (SqT.of hC1.s), _, _, rfl, rfl, _, rfl, if2 (fun c => ?_) (fun c => ?_)⟩
  · have c' := of_decide_eq_true c
    have e1 : is[S.at_.toNat]? = none := List.getElem?_eq_none (by omega)
    refine ⟨_, rfl, m, C, dx, _, _, rfl, M.ins, TM.cls, na_ K TM _ (by decide), rfl, ?_⟩
    refine stk_end fun d H2 x2 _ hd => qE (by unfold stepM; rw [e1]) d H2 (M.ex.trans x2) hd
  have c' := of_decide_eq_false c
  obtain ⟨y, hy⟩ : ∃ y, ixs[S.at_.toNat]? = some y := ⟨_, List.getElem?_eq_getElem (by omega)⟩
  obtain ⟨i, hi, hat⟩ := Paired.at_ hC.is hy
  obtain ⟨a, rfl, ha⟩ := hat
  have hb := M.ex _ _ ha
  have hoki := hok.ins i (List.mem_of_getElem? hi)
  rw [stepM_at hi] at qE qF qG
  have hya : atI ixs S.at_ = some (.ref a) := by
    rw [← haa]
    exact atI_nat hy
  refine ⟨_, rfl, m, C, dx, _, .ref s, rfl, M.ins, TM.cls, na_ K TM _ (by decide), rfl, _, rfl, m, C, dx, _, .int S.at_, rfl, M.ins, TM.cls, na_ K TM _ (by decide), rfl, s, _, _, _, rfl, rfl, SqT.of hC1.s, hya, ?_⟩
  by_cases hB : i = .back
  · subst hB
    refine ⟨_, rfl, a, _, _, _, rfl, rfl, SqT.of hb, rfl, rfl, _, rfl, ifT (by decide +kernel) ?_⟩
    refine ⟨_, rfl, m, dx, _, rfl, M.ins, rfl, ?_⟩
    exact ⟨H0, e, s, m, S, es, is, rfl, ⟨_, _, _, _, M⟩, hi, by rw [stepM_at hi]; exact qE, by rw [stepM_at hi]; exact qF, by rw [stepM_at hi]; exact qG⟩
  refine ⟨_, rfl, a, _, _, _, rfl, rfl, SqT.of hb, i.v0, rfl, _, rfl, ifF (tagB hB) ?_⟩
  refine ⟨_, rfl, a, _, _, _, rfl, rfl, SqT.of hb, i.v0, z2, ?_⟩
  intro p1 hp_p1
  generalize hG_p1 : upd _ p1 _ = H1
  obtain ⟨x1, g1⟩ := nw hp_p1 hG_p1
  have M1 := M.mono x1
  have hb1 := x1 _ _ hb
  refine ⟨p1, _, rfl, .inl (SqL.of g1), rfl, by simp [flatV], _, rfl, ?_⟩
  by_cases hP : i.isP = true
  · have h1 : i.isCT = false := by cases i <;> first | rfl | cases hP
    refine ifF ((tagI i).trans h1) ?_
    refine ⟨_, rfl, a, _, _, _, rfl, rfl, SqT.of hb1, i.v0, rfl, _, rfl, ifF (tagP hP).1 ?_⟩
    refine ⟨_, rfl, a, _, _, _, rfl, rfl, SqT.of hb1, i.v0, rfl, _, rfl, ifF (tagP hP).2 ?_⟩
    refine ⟨_, rfl, m, dx, _, rfl, M1.ins, rfl, _, rfl, ?_⟩
    obtain ⟨p1, p2⟩ := stepP_I (es := es) (S := S) hP
    refine ⟨H0, e, s, m, S, _, i, rfl, ⟨_, _, _, _, M1⟩, ⟨a, rfl, ha⟩, hP, fun k z => (by rw [z] at hoki; exact hoki.1), by omega, hW.st, fun z => qE (p1 z), fun S' hS' H3 M3 => ?_⟩
    obtain ⟨dx, st, fr, FL, M3⟩ := M3
    obtain ⟨q1, q2⟩ := p2 S' hS'
    refine ⟨_, rfl, m, C, dx, _, .int S'.at_, rfl, M3.ins, TM.cls, na_ K TM _ (by decide), rfl, _, _, rfl, rfl, _, rfl, m, C, dx, mfs e s st fr S', rfl, M3.ins, TM.cls, na_ K TM _ (by decide), (show 7 < 1000 by decide), ?_⟩
    rw [pf_at]
    rw [q2]
    exact qG _ q1 _ ⟨_, _, _, _, M3.fld rfl rfl rfl⟩
  have jmp : ∀ n, stepI es S i = .go { S with at_ := n } → MAt H0 (upd H1 m (.ins C dx (mfs e s st fr { S with at_ := n }))) C e s m dx st fr FL { S with at_ := n } := fun n _ => M1.fld rfl rfl rfl
  cases i with
  | back => exact absurd rfl hB
  | call j =>
    refine ifT (tagI _) ⟨_, rfl, m, dx, _, rfl, M1.ins, rfl, _, rfl, a, _, _, _, rfl, rfl, SqT.of hb1, rfl, _, rfl, a, _, _, _, rfl, rfl, SqT.of hb1, rfl, ?_⟩
    exact ⟨H0, _, e, s, m, S, exs, ixs, es, is, _, _, j, rfl, ⟨_, _, _, _, M1⟩, hC, hok, hi, .inl ⟨rfl, rfl⟩, hoki.1, hoki.2, by omega, by omega, by rw [stepM_at hi]; exact qE, by rw [stepM_at hi]; exact qG⟩
  | tail j =>
    refine ifT (tagI _) ⟨_, rfl, m, dx, _, rfl, M1.ins, rfl, _, rfl, a, _, _, _, rfl, rfl, SqT.of hb1, rfl, _, rfl, a, _, _, _, rfl, rfl, SqT.of hb1, rfl, ?_⟩
    exact ⟨H0, _, e, s, m, S, exs, ixs, es, is, _, _, j, rfl, ⟨_, _, _, _, M1⟩, hC, hok, hi, .inr ⟨rfl, rfl⟩, hoki.1, hoki.2, by omega, by omega, by rw [stepM_at hi]; exact qE, by rw [stepM_at hi]; exact qG⟩
  | jump n =>
    refine ifF (tagI _) ?_
    refine ⟨_, rfl, a, _, _, _, rfl, rfl, SqT.of hb1, rfl, rfl, _, rfl, ifT (by decide +kernel) ?_⟩
    refine ⟨_, rfl, a, _, _, _, rfl, rfl, SqT.of hb1, rfl, _, rfl, m, C, dx, mfs e s st fr S, rfl, M1.ins, TM.cls, na_ K TM _ (by decide), (show 7 < 1000 by decide), ?_⟩
    rw [pf_at]
    exact qG _ rfl _ ⟨_, _, _, _, jmp _ rfl⟩
  | zero n =>
    refine ifF (tagI _) ?_
    refine ⟨_, rfl, a, _, _, _, rfl, rfl, SqT.of hb1, rfl, rfl, _, rfl, ifF (by decide +kernel) ?_⟩
    refine ⟨_, rfl, a, _, _, _, rfl, rfl, SqT.of hb1, rfl, rfl, _, rfl, ifT (by decide +kernel) ?_⟩
    refine ⟨_, rfl, m, dx, _, rfl, M1.ins, rfl, ?_⟩
    refine ⟨H0, e, s, m, dx, st, fr, FL, S, 1, rfl, M1, by omega, fun hlt => qE (by simp only [stepI, if_pos hlt]), fun hle H2 p st' M2 hp n1 n2 n3 => ?_⟩
    have hlt : ¬ S.stack.length < 1 := by omega
    have hl := upk_len hle
    match hu : upk S 1, hl with
    | [x], _ =>
      rw [hu] at hp
      refine ⟨p, _, _, _, rfl, rfl, SqL.of hp, rfl, (x != 0), rfl, ?_⟩
      have fin : ∀ n', (if [x] = [0] then n else S.at_ + 1) = n' → MX H0 (upd H2 m (.ins C dx (mfs e s st' fr { S with stack := lok S 1, at_ := n' }))) C e s m { S with stack := lok S 1, at_ := n' } → Q (.bl false) (upd H2 m (.ins C dx (mfs e s st' fr { S with stack := lok S 1, at_ := n' }))) := fun n' hn X => qG _ (by simp only [stepI, if_neg hlt, hu, hn]) _ X
      refine if2 (fun c => ?_) (fun c => ?_)
      · have hx : ¬ [x] = [(0 : Int)] := fun z => by
          rw [(List.cons.inj z).1] at c
          exact absurd c (by decide)
        refine ⟨_, rfl, m, C, dx, _, .int S.at_, rfl, M2.ins, TM.cls, na_ K TM _ (by decide), rfl, _, _, rfl, rfl, _, rfl, m, C, dx, mfs e s st' fr { S with stack := lok S 1 }, rfl, M2.ins, TM.cls, na_ K TM _ (by decide), (show 7 < 1000 by decide), ?_⟩
        rw [pf_at]
        exact fin _ (if_neg hx) ⟨_, _, _, _, M2.fld rfl rfl rfl⟩
      · have hx : [x] = [(0 : Int)] := by
          have : x = 0 := Decidable.byContradiction fun z => by
            have : (x != 0) = true := by simpa using z
            rw [this] at c
            cases c
          rw [this]
        have hb2 := M2.ex _ _ ha
        refine ⟨_, rfl, a, _, _, _, rfl, rfl, SqT.of hb2, rfl, _, rfl, m, C, dx, mfs e s st' fr { S with stack := lok S 1 }, rfl, M2.ins, TM.cls, na_ K TM _ (by decide), (show 7 < 1000 by decide), ?_⟩
        rw [pf_at]
        exact fin _ (if_pos hx) ⟨_, _, _, _, M2.fld rfl rfl rfl⟩
  | push n => exact absurd rfl hP
  | arg n => exact absurd rfl hP
  | op k4 => exact absurd rfl hP
end

end M10
set_option Elab.async false
set_option linter.all false
set_option maxRecDepth 100000
set_option maxHeartbeats 4000000
namespace M10
open PySem PySem.Spec PyProof.Rows L2 Evl
theorem pe_mkM {X : Cx} {CX : CXT} {C : Addr} {k j : Nat} {sp : Sp} {E : XK} {e : Expr} {es : List Expr} {t : TA} {p pos : Pos} (TM : Mcf X.K X.mg C) (c : Dm X.prog X.w X.K X.mg X.base CX k C "__init__" sp) (hr : Room j X.A) (hx : Passes CX X E) (ha : PA X (e :: es) t) (hk : k + 1 ≤ j := by omega) (hg : Gl X "Machine" := by rfl)
    (he : starEach (e :: es) X.env = (false, eval e X.env) :: starEach es X.env := by rfl) (hpl : (backTo pos (starEach es X.env)).any (·.1) = false := by rfl) : PE X (.Call (.Name "Machine" p) (e :: es) [] pos) (tMake C sp [] E t) := by
  obtain ⟨f, fd, ps, hm, F, b⟩ := c
  exact pe_make ⟨TM.mks, hm.at_, hm.fn, TM.kp⟩ F (hr.mono hk) hg TM.g b .nil hx ha (by decide) he hpl
theorem pf1 (v : V) : putF "entries" v [] = ([("entries", v)] : List (Str × V)) := by rfl
theorem pf2 (a v : V) : putF "some" v [("entries", a)] = ([("entries", a), ("some", v)] : List (Str × V)) := by rfl
theorem pf3 (a b v : V) : putF "at" v [("entries", a), ("some", b)] = ([("entries", a), ("some", b), ("at", v)] : List (Str × V)) := by rfl
theorem pf4 (a b c v : V) : putF "stack" v [("entries", a), ("some", b), ("at", c)] = ([("entries", a), ("some", b), ("at", c), ("stack", v)] : List (Str × V)) := by rfl
abbrev S00 (ls : List Int) : MS := { at_ := 0, stack := [], l0 := ls, up := [], mf := 1, ms := 0 }
def spMInit (C : Addr) : Sp := fun vs H Q _ => ∃ (H0 : Hp) (x dx c l e s : Addr) (ls : List Int), vs = [.ref x, .ref c, .ref l] ∧ H x = some (.ins C dx []) ∧ H0 x = none ∧ Ex H0 H ∧ H c = some (.tup [.ref e, .ref s]) ∧ H l = some (.lst (ls.map V.int)) ∧ ∀ H', MX H0 H' C e s x (S00 ls) → Q .non H'
theorem no0 {H0 H : Hp} {p : Addr} (x : Ex H0 H) (h : H p = none) : H0 p = none := by
  cases z : H0 p with
  | none => rfl
  | some o =>
    rw [x _ _ z] at h
    cases h
section
variable {P : Program} {w : World} {K : PySem.W.Frag} {mg : Str → Option Value} {base : Heap}
theorem sc_Machine_init : FnScope ["self", "code", "lates"] ["self", "code", "lates"] (defScope m_Machine_init) := ⟨rfl, rfl, rfl, by decide +kernel, rfl, by decide +kernel, by decide +kernel⟩
theorem ok_minit {C : Addr} (D : DM K C "__init__" "Machine.__init__" m_Machine_init ["self", "code", "lates"]) (TM : Mcf K mg C) : Dm P w K mg base (L2.CX P w) 1 C "__init__" (spMInit C) := by
  refine D.okX sc_Machine_init (fun vs H Q E h => by obtain ⟨H0, x, dx, c, l, e, s, ls, rfl, _⟩ := h; rfl) (fun f cdv A outer s H vs Q E hr h => ?_)
  obtain ⟨H0, x, dx, c, l, e, s, ls, rfl, hx, hx0, x0, hc, hl, q⟩ := h
  refine ⟨_, (pss_cons (ps_asg (pv 1) (pg_tup rfl (pgs_cons (pg_fld (pv 0)) (pgs_cons (pg_fld (pv 0)) pgs_nil))))
    (pss_cons (ps_fld (pv 0) pe_int rfl)
    (pss_cons (ps_fld (pv 0) (pe_lst pa_nil) rfl)
    (pss_cons (ps_fld (pv 0) (pe_lst (pa_cons (pe_tup (pa_cons pe_non (pa_cons (pv 2) pa_nil))) pa_nil)) rfl)
    (pss_cons (ps_fld (pv 0) pe_int rfl)
    (pss_one (ps_fld (pv 0) pe_int rfl))))))), ?_⟩
  have nc : c ≠ x := fun z => by
    rw [z, hx] at hc
    cases hc
  have nl : l ≠ x := fun z => by
    rw [z, hx] at hl
    cases hl
  refine ⟨_, rfl, c, _, rfl, SqT.of hc, rfl, _, _, rfl, _, rfl, x, C, dx, [], rfl, hx, TM.cls, na_ K TM _ (by decide), (show 0 < 1000 by decide), ?_⟩
  refine ⟨_, _, rfl, _, rfl, x, C, dx, [("entries", .ref e)], rfl, upd_same, TM.cls, na_ K TM _ (by decide), (show 1 < 1000 by decide), rfl, ?_⟩
  refine ⟨_, rfl, x, C, dx, [("entries", .ref e), ("some", .ref s)], rfl, upd_same, TM.cls, na_ K TM _ (by decide), (show 2 < 1000 by decide), ?_⟩
  have x3 : Ex H0 (upd (upd (upd H x (.ins C dx [("entries", .ref e)])) x (.ins C dx [("entries", .ref e), ("some", .ref s)])) x (.ins C dx [("entries", .ref e), ("some", .ref s), ("at", .int 0)])) := Ex.at (Ex.at (Ex.at x0 hx0) hx0) hx0
  have hl3 : (upd (upd (upd H x (.ins C dx [("entries", .ref e)])) x (.ins C dx [("entries", .ref e), ("some", .ref s)])) x (.ins C dx [("entries", .ref e), ("some", .ref s), ("at", .int 0)])) l = some (.lst (ls.map V.int)) := by
    rw [upd_ne nl, upd_ne nl, upd_ne nl]
    exact hl
  have hx3 : (upd (upd (upd H x (.ins C dx [("entries", .ref e)])) x (.ins C dx [("entries", .ref e), ("some", .ref s)])) x (.ins C dx [("entries", .ref e), ("some", .ref s), ("at", .int 0)])) x = some (.ins C dx [("entries", .ref e), ("some", .ref s), ("at", .int 0)]) := upd_same
  refine ⟨z0, ?_⟩
  rw [pf1, pf2, pf3]
  generalize (upd (upd (upd H x (.ins C dx [("entries", .ref e)])) x (.ins C dx [("entries", .ref e), ("some", .ref s)])) x (.ins C dx [("entries", .ref e), ("some", .ref s), ("at", .int 0)])) = H3 at x3 hl3 hx3
  intro st hst
  have ns : st ≠ x := fun z => by
    rw [z, hx3] at hst
    cases hst
  have nsl : l ≠ st := ne_of_none hl3 hst
  have st0 : H0 st = none := no0 x3 hst
  refine ⟨_, rfl, x, C, dx, [("entries", .ref e), ("some", .ref s), ("at", .int 0)], rfl, by rw [upd_ne (Ne.symm ns)]; exact hx3, TM.cls, na_ K TM _ (by decide), (show 3 < 1000 by decide), ?_⟩
  rw [pf4]
  have x4 : Ex H0 (upd (upd H3 st (.lst [])) x (.ins C dx [("entries", .ref e), ("some", .ref s), ("at", .int 0), ("stack", .ref st)])) := Ex.at (Ex.at x3 st0) hx0
  have hst4 : (upd (upd H3 st (.lst [])) x (.ins C dx [("entries", .ref e), ("some", .ref s), ("at", .int 0), ("stack", .ref st)])) st = some (.lst []) := by rw [upd_ne ns, upd_same]
  have hl4 : (upd (upd H3 st (.lst [])) x (.ins C dx [("entries", .ref e), ("some", .ref s), ("at", .int 0), ("stack", .ref st)])) l = some (.lst (ls.map V.int)) := by
    rw [upd_ne nl, upd_ne nsl]
    exact hl3
  have hx4 : (upd (upd H3 st (.lst [])) x (.ins C dx [("entries", .ref e), ("some", .ref s), ("at", .int 0), ("stack", .ref st)])) x = some (.ins C dx [("entries", .ref e), ("some", .ref s), ("at", .int 0), ("stack", .ref st)]) := upd_same
  generalize (upd (upd H3 st (.lst [])) x (.ins C dx [("entries", .ref e), ("some", .ref s), ("at", .int 0), ("stack", .ref st)])) = H4 at x4 hst4 hl4 hx4
  refine ⟨_, rfl, z2, ?_⟩
  intro g hp_g
  generalize hG_g : upd _ g _ = H5
  obtain ⟨x5, g5⟩ := nw hp_g hG_g
  have x05 := x4.trans x5
  refine ⟨z1, ?_⟩
  intro fr hfr
  have nf : fr ≠ x := fun z => by
    rw [z, x5 _ _ hx4] at hfr
    cases hfr
  have fr0 : H0 fr = none := no0 x05 hfr
  refine ⟨_, rfl, x, C, dx, [("entries", .ref e), ("some", .ref s), ("at", .int 0), ("stack", .ref st)], rfl, by rw [upd_ne (Ne.symm nf)]; exact x5 _ _ hx4, TM.cls, na_ K TM _ (by decide), (show 4 < 1000 by decide), ?_⟩
  refine ⟨_, rfl, x, C, dx, [("entries", .ref e), ("some", .ref s), ("at", .int 0), ("stack", .ref st), ("frames", .ref fr)], rfl, upd_same, TM.cls, na_ K TM _ (by decide), (show 5 < 1000 by decide), ?_⟩
  refine ⟨_, rfl, x, C, dx, [("entries", .ref e), ("some", .ref s), ("at", .int 0), ("stack", .ref st), ("frames", .ref fr), ("most_frames", .int 1)], rfl, upd_same, TM.cls, na_ K TM _ (by decide), (show 6 < 1000 by decide), ?_⟩
  have k5 : ∀ {b : Addr} {o : HO}, b ≠ x → b ≠ fr → H5 b = some o → (upd (upd (upd (upd H5 fr (.lst [.ref g])) x (.ins C dx [("entries", .ref e), ("some", .ref s), ("at", .int 0), ("stack", .ref st), ("frames", .ref fr)])) x (.ins C dx [("entries", .ref e), ("some", .ref s), ("at", .int 0), ("stack", .ref st), ("frames", .ref fr), ("most_frames", .int 1)])) x (.ins C dx (mfs e s st fr (S00 ls)))) b = some o := fun {b o} n1 n2 h => by
    rw [upd_ne n1, upd_ne n1, upd_ne n1, upd_ne n2]
    exact h
  refine q _ ⟨dx, st, fr, [.ref g], Ex.at (Ex.at (Ex.at (Ex.at x05 fr0) hx0) hx0) hx0, hx0, st0, fr0, upd_same, k5 ns (ne_of_none (x5 _ _ hst4) hfr) (x5 _ _ hst4), ?_, ?_, ne_of_none (x5 _ _ hst4) hfr⟩
  · rw [upd_ne nf, upd_ne nf, upd_ne nf, upd_same]
  · have gx : g ≠ x := fun z => by
      rw [z, x5 _ _ hx4] at g5
      cases g5
    exact ⟨g, l, rfl, k5 gx (ne_of_none g5 hfr) g5, k5 nl (ne_of_none (x5 _ _ hl4) hfr) (x5 _ _ hl4), nsl, ne_of_none (x5 _ _ hl4) hfr⟩
end

end M10
set_option Elab.async false
set_option linter.all false
set_option maxRecDepth 100000
set_option maxHeartbeats 4000000
namespace M10
open PySem PySem.Spec PyProof.Rows L2 Evl
def spRun (CS : Addr) (Pt : List Addr) : Sp := fun vs H Q E => ∃ (c l e s : Addr) (F : Int) (exs ixs : List V) (es : List (Int × Int)) (is : List Ins) (ls : List Int) (m0 : Int) (r0 : List (Int × Int)), vs = [.ref c, .ref l, .int F] ∧ CodeAt H c e s exs ixs es is ∧ CodeOk es is ∧ TGs H Pt ∧ H l = some (.tup (ls.map V.int)) ∧
  es = (0, m0) :: r0 ∧ (ls.length : Int) = m0 ∧ ls.length ≤ 10 ∧ (∀ n ∈ ls, 0 ≤ n ∧ n ≤ 1000000) ∧ 0 ≤ F ∧ F ≤ 100000 ∧
  (runM es is F.toNat 1 (S00 ls) = .none → ∀ H', TbX Pt H H' → Q .non H') ∧
  (∀ n, runM es is F.toNat 1 (S00 ls) = .stuck n → ∀ d H', TbX Pt H H' → H' d = some (.xd [("address", .int n)]) → E (.ref CS) (some d) H') ∧
  (∀ v k mf ms, runM es is F.toNat 1 (S00 ls) = .done v k mf ms → ∀ p H', TbX Pt H H' → H' p = some (.tup [.int v, .int k, .int mf, .int ms]) → Q (.ref p) H')
section
variable {P : Program} {w : World} {K : PySem.W.Frag} {mg : Str → Option Value} {base : Heap}
theorem sc_machine_run : FnScope ["code", "lates", "fuel", "machine", "made"] ["code", "lates", "fuel"] (defScope s_machine_run) := ⟨rfl, rfl, rfl, by decide +kernel, rfl, by decide +kernel, by decide +kernel⟩
theorem ok_run {C CS : Addr} {Pt : List Addr} (D : Dd K mg "machine_run" s_machine_run ["code", "lates", "fuel"]) (TM : Mcf K mg C) (T : Tb K mg) (c_need_code : Dn P w K mg base L2.CX0 5 "need_code" (spNCode Pt)) (c_need_lates : Dn P w K mg base L2.CX0 4 "need_lates" (spNLates Pt)) (c_need_fuel : Dn P w K mg base L2.CX0 2 "need_fuel" spFuel)
    (c_init : Dm P w K mg base (L2.CX P w) 1 C "__init__" (spMInit C)) (c_step : Dm P w K mg base (L2.CX P w) 6 C "step" (spStep C CS)) : Dn P w K mg base (L2.CX P w) 7 "machine_run" (spRun CS Pt) := by
  refine D.okX sc_machine_run (fun vs H Q E h => by obtain ⟨c, l, e, s, F, exs, ixs, es, is, ls, m0, r0, rfl, _⟩ := h; rfl) (fun f cdv A outer s H vs Q E hr h => ?_)
  obtain ⟨c, l, e, s, F, exs, ixs, es, is, ls, m0, r0, rfl, hC, hok, hT, hl, hes, hlm, hl10, hlv, hF0, hF1, qN, qE, qD⟩ := h
  refine ⟨_, (pss_cons (ps_expr (pe_c0 c_need_code hr (pa_cons (pv 0) pa_nil)))
    (pss_cons (ps_expr (pe_c0 c_need_lates hr (pa_cons (pe_ix ix_tup (pe_ix ix_tup (pe_ix ix_tup (pv 0) pe_int (fun _ _ => rfl)) pe_int (fun _ _ => rfl)) pe_int (fun _ _ => rfl)) (pa_cons (pv 1) pa_nil))))
    (pss_cons (ps_expr (pe_c0 c_need_fuel hr (pa_cons (pv 2) pa_nil)))
    (pss_cons (sset 3 sc_machine_run.nd (pe_mkM TM c_init hr pX (pa_cons (pv 0) (pa_cons (pct call_list_of T.list (pa_cons (pv 1) pa_nil)) pa_nil))))
    (pss_cons (ps_for (passes_of rfl) rfl (pi_range2 rfl T.range (pa_cons pe_int (pa_cons (pe_op op_add (pv 2) pe_int) pa_nil))) (gnm 4 sc_machine_run.nd) (pss_one (ps_if (pt_val (pe_mx0 TM.cls c_step hr pX (pv 3))) (pss_one (ps_ret (pe_tup (pa_cons (pe_ix ix_list (pe_fld (pv 3) rfl) pe_int (fun _ _ => rfl)) (pa_cons (pv 4) (pa_cons (pe_fld (pv 3) rfl) (pa_cons (pe_fld (pv 3) rfl) pa_nil))))))) pss_nil)))
    (pss_one (ps_ret pe_non))))))), ?_⟩
  refine ⟨_, rfl, c, e, s, exs, ixs, es, is, rfl, hC, hok, hT, fun H1 X1 => ?_⟩
  have C1 := hC.mono (X1.tx hT)
  have l1 := X1.tx hT _ _ hl
  obtain ⟨b0, hb1, hb2⟩ := C1.es.get (i := 0) (e := (0, m0)) (by rw [hes] <;> rfl)
  refine ⟨_, rfl, c, _, _, _, rfl, rfl, SqT.of C1.c, rfl, e, _, _, .ref b0, rfl, rfl, SqT.of C1.e, atI_nat (j := 0) hb1, b0, _, _, _, rfl, rfl, SqT.of hb2, rfl, _, rfl, ?_⟩
  refine ⟨m0, l, ls, rfl, l1, hlm, hlv, X1.1, fun H2 X2' => ?_⟩
  have X2 := X1.trans X2'
  have C2 := hC.mono (X2.tx hT)
  have l2 := X2.tx hT _ _ hl
  refine ⟨_, rfl, F, rfl, hF0, hF1, ?_⟩
  refine ⟨_, rfl, _, rfl, l, _, rfl, .inr (SqT.of l2), ?_⟩
  intro p hp_p
  generalize hG_p : upd _ p _ = H3
  obtain ⟨x3, g3⟩ := nw hp_p hG_p
  intro x dx hx hdx hne
  have C3 := C2.mono (Tx.of x3)
  have cx : c ≠ x := ne_of_none C3.c hx
  have cd : c ≠ dx := ne_of_none C3.c hdx
  have px : p ≠ x := ne_of_none g3 hx
  have pd : p ≠ dx := ne_of_none g3 hdx
  refine ⟨H3, x, dx, c, p, e, s, ls, rfl, upd_same, hx, Ex.at (Ex.new hdx) hx, by rw [upd_ne cx, upd_ne cd]; exact C3.c, by rw [upd_ne px, upd_ne pd]; exact g3, fun H4 M0 => ⟨rfl, ?_⟩⟩
  refine ⟨_, rfl, _, _, rfl, rfl, _, _, rfl, ⟨by omega, by omega, by omega, by omega⟩, ?_⟩
  have X3 := X2.ex x3
  refine for_range (lo := 1) (n := (F + 1 - 1).toNat) (fun i σ' H' => ∃ (v5 : Option V) (S : MS), σ' = [some (.ref c), some (.ref l), some (.int F), some (.ref x), v5] ∧ MX H3 H' C e s x S ∧ WS i S ∧ runM es is F.toNat 1 (S00 ls) = runM es is (F.toNat - i) (1 + i) S)
    ⟨_, S00 ls, rfl, M0, ⟨Int.le_refl _, fun v hv => absurd hv List.not_mem_nil, fun v hv => by have := hlv v hv; exact ⟨this.1, by have := TOP0; show v ≤ 1000000000000000000000000000000; omega⟩, fun r hr => absurd hr List.not_mem_nil, Nat.le_refl _, Nat.le_refl _, (show (0 : Int) + 1 ≤ 1 by decide), (show (0 : Int) ≤ 0 by decide), hl10, fun r hr => absurd hr List.not_mem_nil⟩, rfl⟩ ?_ ?_
  · rintro i _ H5 hi ⟨v5, S, rfl, ⟨dx', st, fr, FL, M⟩, hW, hrun⟩
    have hii : i < F.toNat := by omega
    have hrun2 : runM es is F.toNat 1 (S00 ls) = (match stepM es is S with
      | .stuck => .stuck S.at_
      | .fin => .done (S.stack.headD 0) (1 + i) S.mf S.ms
      | .go S' => runM es is (F.toNat - (i + 1)) (1 + i + 1) S') := by
      rw [hrun, show F.toNat - i = (F.toNat - (i + 1)) + 1 by omega]
      rfl
    refine ⟨_, rfl, x, dx', _, rfl, M.ins, rfl, ?_⟩
    refine ⟨H3, c, e, s, x, S, exs, ixs, es, is, i, rfl, ⟨_, _, _, _, M⟩, C3, hok, hW, by omega, fun z => ?_, fun z H6 M6 => ?_, fun S' z H6 M6 => ?_⟩
    · rw [z] at hrun2
      exact fun d H' ex hd => qE _ hrun2 d H' (X3.ex ex) hd
    · rw [z] at hrun2
      obtain ⟨v, hv⟩ : ∃ v, S.stack = [v] := by
        unfold stepM at z
        split at z
        · cases z
        · rename_i ins _
          cases ins with
          | back =>
            simp only at z
            split at z
            · split at z
              · rename_i h1
                exact List.length_eq_one_iff.mp h1
              · cases z
            · cases z
          | call j =>
            simp only at z
            split at z
            · cases z
            · split at z <;> cases z
          | tail j =>
            simp only at z
            split at z
            · cases z
            · split at z
              · cases z
              · split at z <;> cases z
          | jump n => cases z
          | zero n =>
            simp only at z
            split at z <;> cases z
          | push n => cases z
          | arg n =>
            simp only at z
            split at z <;> cases z
          | op k =>
            simp only at z
            split at z <;> cases z
      obtain ⟨dx', st, fr, FL, M⟩ := M6
      have hst := M.lst
      rw [hv] at hst hrun2
      refine ⟨_, rfl, ifT rfl ?_⟩
      refine ⟨_, rfl, x, C, dx', _, .ref st, rfl, M.ins, TM.cls, na_ K TM _ (by decide), rfl, st, _, _, _, rfl, rfl, SqL.of hst, rfl, _, rfl, _, rfl, x, C, dx', _, .int S.mf, rfl, M.ins, TM.cls, na_ K TM _ (by decide), rfl, _, rfl, x, C, dx', _, .int S.ms, rfl, M.ins, TM.cls, na_ K TM _ (by decide), rfl, z4, ?_⟩
      intro p7 hp_p7
      generalize hG_p7 : upd _ p7 _ = H7
      obtain ⟨x7, g7⟩ := nw hp_p7 hG_p7
      exact qD _ _ _ _ hrun2 p7 H7 (X3.ex (M.ex.trans x7)) g7
    · rw [z] at hrun2
      refine ⟨_, rfl, ifF rfl ?_⟩
      have e1 : (1 : Int) + i + 1 = 1 + ((i + 1 : Nat) : Int) := by omega
      rw [e1] at hrun2
      exact ⟨_, S', rfl, M6, hW.step hok z, hrun2⟩
  · rintro _ H5 ⟨v5, S, rfl, ⟨dx', st, fr, FL, M⟩, hW, hrun⟩
    refine qN ?_ _ (X3.ex M.ex)
    rw [hrun, show F.toNat - (F + 1 - 1).toNat = 0 by omega]
    rfl
end

end M10
set_option Elab.async false
set_option linter.all false
set_option maxRecDepth 100000
set_option maxHeartbeats 4000000
namespace M10
open PySem PySem.Spec PyProof.Rows L2 Evl
theorem FrR.ex {H H' : Hp} {a b : Addr} (x : Ex H H') {l0 : List Int} : ∀ {up : List (Int × List Int)} {xs : List V}, FrR H a b xs up l0 → FrR H' a b xs up l0 := by
  intro up
  induction up with
  | nil =>
    intro xs h
    obtain ⟨g, b, h1, h2, h3, h4, h5⟩ := h
    exact ⟨g, b, h1, x _ _ h2, x _ _ h3, h4, h5⟩
  | cons r up ih =>
    intro xs h
    obtain ⟨g, b, ys, h1, h2, h3, h4, h5, h6⟩ := h
    exact ⟨g, b, ys, h1, x _ _ h2, x _ _ h3, h4, h5, ih h6⟩
/-- the law's machine: its stack at st, its frames at fr -/
structure LI (H : Hp) (c st fr : Addr) (FL : List V) (S : MS) : Prop where
  lst : H st = some (.lst (S.stack.map V.int))
  frl : H fr = some (.lst FL)
  frs : FrR H c c FL.reverse S.up S.l0
theorem LI.ex {H H' : Hp} {c st fr : Addr} {FL : List V} {S : MS} (h : LI H c st fr FL S) (x : Ex H H') : LI H' c st fr FL S := ⟨x _ _ h.lst, x _ _ h.frl, h.frs.ex x⟩
def tk0 : Ins → Int
  | .op _ => 2
  | .zero _ => 1
  | _ => 0
abbrev dtk : List (Key × V) := [(.inr "plus", .int 2), (.inr "minus", .int 2), (.inr "times", .int 2), (.inr "less", .int 2), (.inr "zero", .int 1)]
theorem tk0_get (i : Ins) : (valV (mergeK [] dtk) (.inr i.tag)).getD (.int 0) = .int (tk0 i) := by
  cases i with
  | op k => cases k <;> rfl
  | _ => rfl
/-- how many an instruction takes -/
def tkN (es : List (Int × Int)) : Ins → Nat
  | .op _ => 2
  | .zero _ => 1
  | .call j => ((es[j.toNat]?).map fun e => e.2.toNat).getD 0
  | .tail j => ((es[j.toNat]?).map fun e => e.2.toNat).getD 0
  | _ => 0
theorem tk0_N {es : List (Int × Int)} {i : Ins} (h : i.isCT = false) : tk0 i = tkN es i := by cases i <;> first | rfl | cases h
theorem upk2 {S : MS} (h : 2 ≤ S.stack.length) : ∃ a b, upk S 2 = [a, b] := by
  have := upk_len h
  match hu : upk S 2, this with
  | [a, b], _ => exact ⟨a, b, rfl⟩
theorem stk_lt {es : List (Int × Int)} {S : MS} {i : Ins} (h : S.stack.length < tkN es i) : stepI es S i = .stuck := by
  cases i with
  | op k =>
    have hl : (upk S 2).length < 2 := by
      have h' : S.stack.length < 2 := h
      show (S.stack.drop (S.stack.length - 2)).length < 2
      rw [List.length_drop]
      omega
    unfold stepI
    match hu : upk S 2, hl with
    | [], _ => simp only [hu]
    | [x], _ => simp only [hu]
  | zero a => exact if_pos h
  | call j =>
    unfold stepI
    cases he : es[j.toNat]? with
    | none => simp only [he]
    | some e =>
      have h' : S.stack.length < e.2.toNat := by simpa [tkN, he] using h
      simp only [he]
      exact if_pos h'
  | tail j =>
    unfold stepI
    cases he : es[j.toNat]? with
    | none => simp only [he]
    | some e =>
      have h' : S.stack.length < e.2.toNat := by simpa [tkN, he] using h
      simp only [he]
      exact if_pos h'
  | _ => exact absurd h (Nat.not_lt_zero _)
def spLMach : Sp := fun vs H Q _ => ∃ (c l e s : Addr) (F : Int) (exs ixs : List V) (es : List (Int × Int)) (is : List Ins) (ls : List Int), vs = [.ref c, .ref l, .int F] ∧ CodeAt H c e s exs ixs es is ∧ CodeOk es is ∧ H l = some (.tup (ls.map V.int)) ∧
  ls.length ≤ 10 ∧ (∀ n ∈ ls, 0 ≤ n ∧ n ≤ 1000000) ∧ 0 ≤ F ∧ F ≤ 100000 ∧
  (runM es is F.toNat 1 (S00 ls) = .none → ∀ H', Ex H H' → Q .non H') ∧
  (∀ n, runM es is F.toNat 1 (S00 ls) = .stuck n → ∀ p H', Ex H H' → H' p = some (.tup [.str "stuck", .int n]) → Q (.ref p) H') ∧
  (∀ v k mf ms, runM es is F.toNat 1 (S00 ls) = .done v k mf ms → ∀ p H', Ex H H' → H' p = some (.tup [.int v, .int k, .int mf, .int ms]) → Q (.ref p) H')
theorem ite_key {c : Bool} {A B : VK → Prop} {v : V} {H : Hp} {Q : VK} (hA : c = true → ∀ Q : VK, Q v H → A Q) (hB : c = false → ∀ Q : VK, Q v H → B Q) (q : Q v H) : if c = true then A Q else B Q := by
  cases c with
  | true => exact ifT rfl (hA rfl Q q)
  | false => exact ifF rfl (hB rfl Q q)
theorem CodeAt.en {H : Hp} {c e s : Addr} {exs ixs : List V} {es : List (Int × Int)} {is : List Ins} (h : CodeAt H c e s exs ixs es is) {j : Int} (h0 : 0 ≤ j) (h1 : j < (es.length : Int)) : ∃ en a, es[j.toNat]? = some en ∧ atI exs j = some (.ref a) ∧ H a = some (.tup [.int en.1, .int en.2]) := by
  have hen := List.getElem?_eq_getElem (l := es) (i := j.toNat) (by omega)
  obtain ⟨ea, hea1, hea2⟩ := h.es.get hen
  have hjj : ((j.toNat : Nat) : Int) = j := by omega
  have hea3 : atI exs j = some (.ref ea) := by
    have := atI_nat hea1
    rw [hjj] at this
    exact this
  exact ⟨_, ea, hen, hea3, hea2⟩
theorem op_eqDK {X : Cx} {K : PySem.W.Frag} (hu : X.A.units + 64 < cLine) (hK : X.K = K := by rfl) : OpR X (compareOp .Eq) (rEqD K) := hK ▸ op_eqD hu
theorem cut_m1 {l : List V} : cutV l none (some (-1)) = l.dropLast := by
  unfold cutV
  rw [HT.sIx_none, List.drop_zero, Nat.sub_zero, List.dropLast_eq_take]
  congr 1
  show (if (-1 : Int) < 0 then ((-1 : Int) + (l.length : Int)).toNat else min (-1 : Int).toNat l.length) = l.length - 1
  rw [if_pos (by decide)]
  omega
theorem stepI_mm {N : Nat} {es : List (Int × Int)} {S S' : MS} {i : Ins} (h : WS N S) (hs : stepI es S i = .go S') : S'.mf = max S.mf (S'.up.length + 1) ∧ S'.ms = max S.ms S'.stack.length := by
  have h2 := h.ms
  have h3 := h.mf
  have hk : ∀ k, ((lok S k).length : Int) ≤ S.stack.length := fun k => by
    have := lok_len (S := S) (k := k)
    omega
  have hput : ∀ (S1 : MS) (a n : Int), S1.mf = S.mf → S1.up = S.up → S1.ms = S.ms → (putM S1 a n).mf = max S.mf ((putM S1 a n).up.length + 1) ∧ (putM S1 a n).ms = max S.ms (putM S1 a n).stack.length := fun S1 a n e1 e2 e3 => by
    show S1.mf = max S.mf (S1.up.length + 1) ∧ max S1.ms (S1.stack.length + 1) = max S.ms ((S1.stack ++ [n]).length : Nat)
    rw [e1, e2, e3, List.length_append, List.length_singleton]
    omega
  unfold stepI at hs
  cases i with
  | back =>
    simp only at hs
    cases hu : S.up with
    | nil =>
      rw [hu] at hs
      simp only at hs
      split at hs <;> cases hs
    | cons r u =>
      rw [hu] at hs
      cases hs
      rw [hu, List.length_cons] at h3
      show S.mf = max S.mf (u.length + 1) ∧ S.ms = max S.ms S.stack.length
      omega
  | call j =>
    simp only at hs
    cases he : es[j.toNat]? with
    | none => rw [he] at hs; cases hs
    | some e =>
      rw [he] at hs
      simp only at hs
      split at hs
      · cases hs
      · cases hs
        have := hk e.2.toNat
        show max S.mf (S.up.length + 2) = max S.mf ((((S.at_ + 1, upk S e.2.toNat) :: S.up).length : Nat) + 1) ∧ S.ms = max S.ms (lok S e.2.toNat).length
        rw [List.length_cons]
        omega
  | tail j =>
    simp only at hs
    cases he : es[j.toNat]? with
    | none => rw [he] at hs; cases hs
    | some e =>
      rw [he] at hs
      simp only at hs
      split at hs
      · cases hs
      · have := hk e.2.toNat
        cases hu : S.up with
        | nil =>
          rw [hu] at hs
          cases hs
          rw [hu] at h3
          show S.mf = max S.mf ((([] : List (Int × List Int)).length : Nat) + 1) ∧ S.ms = max S.ms (lok S e.2.toNat).length
          omega
        | cons r u =>
          rw [hu] at hs
          cases hs
          rw [hu, List.length_cons] at h3
          show S.mf = max S.mf ((((r.1, upk S e.2.toNat) :: u).length : Nat) + 1) ∧ S.ms = max S.ms (lok S e.2.toNat).length
          rw [List.length_cons]
          omega
  | jump a =>
    cases hs
    show S.mf = max S.mf (S.up.length + 1) ∧ S.ms = max S.ms S.stack.length
    omega
  | zero a =>
    simp only at hs
    split at hs
    · cases hs
    · cases hs
      have := hk 1
      show S.mf = max S.mf (S.up.length + 1) ∧ S.ms = max S.ms (lok S 1).length
      omega
  | push n =>
    cases hs
    exact hput S _ _ rfl rfl rfl
  | arg k =>
    simp only at hs
    cases hv : S.own[k.toNat]? with
    | none => rw [hv] at hs; cases hs
    | some v =>
      rw [hv] at hs
      cases hs
      exact hput S _ _ rfl rfl rfl
  | op k =>
    simp only at hs
    split at hs
    · cases hs
      exact hput _ _ _ rfl rfl rfl
    · cases hs
theorem tagA {i : Ins} (h : ¬ ∃ k, i = .arg k) : decide (V.str i.tag = V.str "arg") = false := by
  cases i with
  | arg k => exact absurd ⟨k, rfl⟩ h
  | op k => cases k <;> decide +kernel
  | _ => exact sne (by simp only [Ins.tag] <;> decide +kernel)
theorem lok0 {l : List Int} : (l.take (l.length - 0)) = l := List.take_of_length_le (Nat.le_refl _)

end M10
set_option Elab.async false
set_option linter.all false
set_option maxRecDepth 100000
set_option maxHeartbeats 4000000
namespace M10
open PySem PySem.Spec PyProof.Rows L2 Evl
section
variable {P : Program} {w : World} {K : PySem.W.Frag} {mg : Str → Option Value} {base : Heap}
theorem sc_law_machine : FnScope ["_law_code_here", "_law_lates_here", "_law_fuel", "_law_entries", "_law_some", "_law_at", "_law_stack", "_law_frames", "_law_most", "_law_high", "_law_made", "_law_one", "_law_own", "_law_takes", "_law_taken_here"] ["_law_code_here", "_law_lates_here", "_law_fuel"] (defScope s_law_machine) := ⟨rfl, rfl, rfl, by decide +kernel, rfl, by decide +kernel, by decide +kernel⟩
theorem ok_l_machine (D : Dd K mg "_law_machine" s_law_machine ["_law_code_here", "_law_lates_here", "_law_fuel"]) (T : Tb K mg) (c_l_worked : Dn P w K mg base L2.CX0 1 "_law_worked" spWorked) : Dn P w K mg base L2.CX0 2 "_law_machine" spLMach := by
  refine D.ok sc_law_machine (fun vs H Q E h => by obtain ⟨c, l, e, s, F, exs, ixs, es, is, ls, rfl, _⟩ := h; rfl) (fun f cdv A outer s H vs Q E hr h => ?_)
  have hu : (A.deeper (envOfC "_law_machine" (defScope s_law_machine) s.heap.objs.size f cdv)).units + 1 < cLine := by
    have := hr.un
    omega
  obtain ⟨c, l, e, s, F, exs, ixs, es, is, ls, rfl, hC, hok, hl, hl10, hlv, hF0, hF1, qN, qE, qD⟩ := h
  -- ["_law_code_here", "_law_lates_here", "_law_fuel", "_law_entries", "_law_some", "_law_at", "_law_stack", "_law_frames", "_law_most", "_law_high", "_law_made", "_law_one", "_law_own", "_law_takes", "_law_taken_here"]
  refine ⟨_, (pss_cons (ps_asg (pv 0) (pg_tup rfl (pgs_cons (gnm 3 sc_law_machine.nd) (pgs_cons (gnm 4 sc_law_machine.nd) pgs_nil))))
    (pss_cons (ps_asg (pe_tup (pa_cons pe_int (pa_cons (pe_lst pa_nil) (pa_cons (pe_lst (pa_cons (pe_tup (pa_cons pe_non (pa_cons (pct call_list_of T.list (pa_cons (pv 1) pa_nil)) pa_nil))) pa_nil)) (pa_cons pe_int (pa_cons pe_int pa_nil)))))) (pg_tup rfl (pgs_cons (gnm 5 sc_law_machine.nd) (pgs_cons (gnm 6 sc_law_machine.nd) (pgs_cons (gnm 7 sc_law_machine.nd) (pgs_cons (gnm 8 sc_law_machine.nd) (pgs_cons (gnm 9 sc_law_machine.nd) pgs_nil)))))))
    (pss_cons (ps_for PassesOwn.never rfl (pi_range2 rfl T.range (pa_cons pe_int (pa_cons (pe_op op_add (pv 2) pe_int) pa_nil))) (gnm 10 sc_law_machine.nd) (pss_cons (ps_if (pt_cmpR op_ge (pv 5) (pcb call_len_seq T.len (pa_cons (pv 4) pa_nil)) (nomark _)) (pss_one (ps_ret (pe_tup (pa_cons pe_str (pa_cons (pv 5) pa_nil))))) pss_nil)
    (pss_cons (ps_par (i := 11) (j := 12) (by rfl) sc_law_machine.nd rfl rfl (by decide) rfl rfl (pa_cons (pe_ix ix_tup (pv 4) (pv 5) (fun _ _ => rfl)) (pa_cons (pe_ix ix_tup (pe_ix ix_list (pv 7) (pe_un un_neg pe_int) (fun _ _ => rfl)) pe_int (fun _ _ => rfl)) pa_nil)) (by rfl))
    (pss_cons (sset 13 sc_law_machine.nd (pe_dget2 hu (pe_disp (pps_cons pe_str pe_int (pps_cons pe_str pe_int (pps_cons pe_str pe_int (pps_cons pe_str pe_int (pps_cons pe_str pe_int pps_nil))))) (by rfl) (by rfl) (fun z => by cases z) (by decide)) (pe_ix ix_tup (pv 11) pe_int (fun _ _ => rfl)) pe_int ⟨rfl, rfl, rfl, rfl⟩))
    (pss_cons (sset 13 sc_law_machine.nd (pe_ifExp (pt_cmpR op_in_seq (pe_ix ix_tup (pv 11) pe_int (fun _ _ => rfl)) (pe_lst (pa_cons pe_str (pa_cons pe_str pa_nil))) rfl) (pe_ix ix_tup (pe_ix ix_tup (pv 3) (pe_ix ix_tup (pv 11) pe_int (fun _ _ => rfl)) (fun _ _ => rfl)) pe_int (fun _ _ => rfl)) (pv 13)))
    (pss_cons (ps_if (PW.pt (pw_or (pt_cmpR op_lt (pcb call_len_seq T.len (pa_cons (pv 6) pa_nil)) (pv 13) (nomark _)) (pw_or1 (PW.pt (pw_and (pt_cmpR op_eq (pe_ix ix_tup (pv 11) pe_int (fun _ _ => rfl)) pe_str (nomark _)) (pw_and1 (pt_cmpR op_ge (pe_ix ix_tup (pv 11) pe_int (fun _ _ => rfl)) (pcb call_len_seq T.len (pa_cons (pv 12) pa_nil)) (nomark _)))))))) (pss_one (ps_ret (pe_tup (pa_cons pe_str (pa_cons (pv 5) pa_nil))))) pss_nil)
    (pss_cons (ps_par (i := 14) (j := 6) (by rfl) sc_law_machine.nd rfl rfl (by decide) rfl rfl (pa_cons (pe_slice sl_list (pv 6) (po_some (pe_op op_sub (pcb call_len_seq T.len (pa_cons (pv 6) pa_nil)) (pv 13))) po_none) (pa_cons (pe_slice sl_list (pv 6) po_none (po_some (pe_op op_sub (pcb call_len_seq T.len (pa_cons (pv 6) pa_nil)) (pv 13)))) pa_nil)) (by rfl))
    (pss_cons (ps_if (pt_cmpR op_eq (pe_ix ix_tup (pv 11) pe_int (fun _ _ => rfl)) pe_str (nomark _)) (pss_cons (ps_if (pt_cmpR op_eq (pcb call_len_seq T.len (pa_cons (pv 7) pa_nil)) pe_int (nomark _)) (pss_one (ps_ret (pe_ifExp (pt_cmpR op_eq (pcb call_len_seq T.len (pa_cons (pv 6) pa_nil)) pe_int (nomark _)) (pe_tup (pa_cons (pe_ix ix_list (pv 6) pe_int (fun _ _ => rfl)) (pa_cons (pv 10) (pa_cons (pv 8) (pa_cons (pv 9) pa_nil))))) (pe_tup (pa_cons pe_str (pa_cons (pv 5) pa_nil)))))) pss_nil)
    (pss_one (ps_par (i := 5) (j := 7) (by rfl) sc_law_machine.nd rfl rfl (by decide) rfl rfl (pa_cons (pe_ix ix_tup (pe_ix ix_list (pv 7) (pe_un un_neg pe_int) (fun _ _ => rfl)) pe_int (fun _ _ => rfl)) (pa_cons (pe_slice sl_list (pv 7) po_none (po_some (pe_un un_neg pe_int))) pa_nil)) (by rfl)))) (pss_one (ps_if (pt_cmpR op_eq (pe_ix ix_tup (pv 11) pe_int (fun _ _ => rfl)) pe_str (nomark _)) (pss_one (ps_par (i := 7) (j := 5) (by rfl) sc_law_machine.nd rfl rfl (by decide) rfl rfl (pa_cons (pe_op op_cat (pv 7) (pe_lst (pa_cons (pe_tup (pa_cons (pe_op op_add (pv 5) pe_int) (pa_cons (pv 14) pa_nil))) pa_nil))) (pa_cons (pe_ix ix_tup (pe_ix ix_tup (pv 3) (pe_ix ix_tup (pv 11) pe_int (fun _ _ => rfl)) (fun _ _ => rfl)) pe_int (fun _ _ => rfl)) pa_nil)) (by rfl))) (pss_one (ps_if (pt_cmpR op_eq (pe_ix ix_tup (pv 11) pe_int (fun _ _ => rfl)) pe_str (nomark _)) (pss_one (ps_par (i := 7) (j := 5) (by rfl) sc_law_machine.nd rfl rfl (by decide) rfl rfl (pa_cons (pe_op op_cat (pe_slice sl_list (pv 7) po_none (po_some (pe_un un_neg pe_int))) (pe_lst (pa_cons (pe_tup (pa_cons (pe_ix ix_tup (pe_ix ix_list (pv 7) (pe_un un_neg pe_int) (fun _ _ => rfl)) pe_int (fun _ _ => rfl)) (pa_cons (pv 14) pa_nil))) pa_nil))) (pa_cons (pe_ix ix_tup (pe_ix ix_tup (pv 3) (pe_ix ix_tup (pv 11) pe_int (fun _ _ => rfl)) (fun _ _ => rfl)) pe_int (fun _ _ => rfl)) pa_nil)) (by rfl))) (pss_one (ps_if (PW.pt (pw_or (pt_cmpR op_eq (pe_ix ix_tup (pv 11) pe_int (fun _ _ => rfl)) pe_str (nomark _)) (pw_or1 (PW.pt (pw_and (pt_cmpR op_eq (pe_ix ix_tup (pv 11) pe_int (fun _ _ => rfl)) pe_str (nomark _)) (pw_and1 (pt_cmpR (op_eqDK (K := K) (hu64 hr)) (pv 14) (pe_lst (pa_cons pe_int pa_nil)) (nomark _)))))))) (pss_one (sset 5 sc_law_machine.nd (pe_ix ix_tup (pv 11) pe_int (fun _ _ => rfl)))) (pss_cons (sset 5 sc_law_machine.nd (pe_op op_add (pv 5) pe_int))
    (pss_one (ps_if (PW.pt (pw_or (pt_cmpR op_eq (pe_ix ix_tup (pv 11) pe_int (fun _ _ => rfl)) pe_str (nomark _)) (pw_or1 (pt_cmpR op_eq (pe_ix ix_tup (pv 11) pe_int (fun _ _ => rfl)) pe_str (nomark _))))) (pss_one (sset 6 sc_law_machine.nd (pe_op op_cat (pv 6) (pe_lst (pa_cons (pe_ifExp (pt_cmpR op_eq (pe_ix ix_tup (pv 11) pe_int (fun _ _ => rfl)) pe_str (nomark _)) (pe_ix ix_tup (pv 11) pe_int (fun _ _ => rfl)) (pe_ix ix_list (pv 12) (pe_ix ix_tup (pv 11) pe_int (fun _ _ => rfl)) (fun _ _ => rfl))) pa_nil))))) (pss_one (ps_if (pt_cmpR op_eq (pe_ix ix_tup (pv 11) pe_int (fun _ _ => rfl)) pe_str (nomark _)) (pss_one (sset 6 sc_law_machine.nd (pe_op op_cat (pv 6) (pe_lst (pa_cons (pct call_int1 T.int (pa_cons (pe_cmpR op_lt (pe_ix ix_list (pv 14) pe_int (fun _ _ => rfl)) (pe_ix ix_list (pv 14) pe_int (fun _ _ => rfl)) (nomark _)) pa_nil)) pa_nil))))) (pss_one (ps_if (pt_cmpR op_ne (pe_ix ix_tup (pv 11) pe_int (fun _ _ => rfl)) pe_str (nomark _)) (pss_one (sset 6 sc_law_machine.nd (pe_op op_cat (pv 6) (pe_lst (pa_cons (pe_c0 c_l_worked hr (pa_cons (pe_ix ix_tup (pv 11) pe_int (fun _ _ => rfl)) (pa_cons (pe_ix ix_list (pv 14) pe_int (fun _ _ => rfl)) (pa_cons (pe_ix ix_list (pv 14) pe_int (fun _ _ => rfl)) pa_nil)))) pa_nil))))) pss_nil))))))))))))))
    (pss_one (ps_par (i := 8) (j := 9) (by rfl) sc_law_machine.nd rfl rfl (by decide) rfl rfl (pa_cons (pcb (call_max2 rfl) T.max (pa_cons (pv 8) (pa_cons (pcb call_len_seq T.len (pa_cons (pv 7) pa_nil)) pa_nil))) (pa_cons (pcb (call_max2 rfl) T.max (pa_cons (pv 9) (pa_cons (pcb call_len_seq T.len (pa_cons (pv 6) pa_nil)) pa_nil))) pa_nil)) (by rfl)))))))))))
    (pss_one (ps_ret pe_non))))), ?_⟩
  refine ⟨_, rfl, c, _, rfl, SqT.of hC.c, rfl, _, _, rfl, _, _, rfl, rfl, ?_⟩
  refine ⟨z0, ?_⟩
  intro st hp_st
  generalize hG_st : upd _ st _ = H1
  obtain ⟨x1, g1⟩ := nw hp_st hG_st
  refine ⟨_, rfl, l, _, rfl, .inr (SqT.of (x1 _ _ hl)), ?_⟩
  intro b hp_b
  generalize hG_b : upd _ b _ = H2
  obtain ⟨x2, g2⟩ := nw hp_b hG_b
  refine ⟨z2, ?_⟩
  intro g hp_g
  generalize hG_g : upd _ g _ = H3
  obtain ⟨x3, g3⟩ := nw hp_g hG_g
  refine ⟨z1, ?_⟩
  intro fr hp_fr
  generalize hG_fr : upd _ fr _ = H4
  obtain ⟨x4, g4⟩ := nw hp_fr hG_fr
  refine ⟨z5, ?_⟩
  intro tp hp_tp
  generalize hG_tp : upd _ tp _ = H5
  obtain ⟨x5, g5⟩ := nw hp_tp hG_tp
  refine ⟨tp, _, rfl, SqT.of g5, rfl, _, _, rfl, _, _, rfl, _, _, rfl, _, _, rfl, _, _, rfl, rfl, ?_⟩
  have x05 : Ex H H5 := x1.trans (x2.trans (x3.trans (x4.trans x5)))
  have L0 : LI H5 c st fr [.ref g] (S00 ls) := ⟨x5 _ _ (x4 _ _ (x3 _ _ (x2 _ _ g1))), x5 _ _ g4, g, b, rfl, x5 _ _ (x4 _ _ g3), x5 _ _ (x4 _ _ (x3 _ _ g2)), (ne_of_none (x1 _ _ hC.c) hp_b).symm, (ne_of_none (x1 _ _ hC.c) hp_b).symm⟩
  refine ⟨_, rfl, _, _, rfl, rfl, _, _, rfl, ⟨by omega, by omega, by omega, by omega⟩, ?_⟩
  refine for_range (lo := 1) (n := (F + 1 - 1).toNat) (fun i σ' H' => ∃ (v10 v11 v12 v13 v14 : Option V) (S : MS) (st fr : Addr) (FL : List V), σ' = [some (.ref c), some (.ref l), some (.int F), some (.ref e), some (.ref s), some (.int S.at_), some (.ref st), some (.ref fr), some (.int S.mf), some (.int S.ms), v10, v11, v12, v13, v14] ∧ Ex H H' ∧ LI H' c st fr FL S ∧ WS i S ∧ runM es is F.toNat 1 (S00 ls) = runM es is (F.toNat - i) (1 + i) S)
    ⟨_, _, _, _, _, S00 ls, st, fr, _, rfl, x05, L0, ⟨Int.le_refl _, fun v hv => absurd hv List.not_mem_nil, fun v hv => by have := hlv v hv; exact ⟨this.1, by have := TOP0; show v ≤ 1000000000000000000000000000000; omega⟩, fun r hr => absurd hr List.not_mem_nil, Nat.le_refl _, Nat.le_refl _, (show (0 : Int) + 1 ≤ 1 by decide), (show (0 : Int) ≤ 0 by decide), hl10, fun r hr => absurd hr List.not_mem_nil⟩, rfl⟩ ?_ ?_
  · rintro i _ H6 hi ⟨v10, v11, v12, v13, v14, S, st, fr, FL, rfl, x6, L, hW, hrun⟩
    have hC6 := hC.mono (Tx.of x6)
    have hrun2 : runM es is F.toNat 1 (S00 ls) = (match stepM es is S with
      | .stuck => .stuck S.at_
      | .fin => .done (S.stack.headD 0) (1 + i) S.mf S.ms
      | .go S' => runM es is (F.toNat - (i + 1)) (1 + i + 1) S') := by
      rw [hrun, show F.toNat - i = (F.toNat - (i + 1)) + 1 by omega]
      rfl
    have hli := hC.is.length
    have ha0 := hW.a0
    have haa : ((S.at_.toNat : Nat) : Int) = S.at_ := by omega
    refine ⟨_, rfl, _, rfl, s, _, rfl, .inr (SqT.of hC6.s), _, _, rfl, rfl, _, rfl, if2 (fun cc => ?_) (fun cc => ?_)⟩
    · have c' := of_decide_eq_true cc
      have e1 : is[S.at_.toNat]? = none := List.getElem?_eq_none (by omega)
      have e2 : stepM es is S = .stuck := by unfold stepM; rw [e1]
      rw [e2] at hrun2
      refine ⟨_, rfl, z2, ?_⟩
      intro p7 hp_p7
      generalize hG_p7 : upd _ p7 _ = H7
      obtain ⟨x7, g7⟩ := nw hp_p7 hG_p7
      exact qE _ hrun2 p7 H7 (x6.trans x7) g7
    have c' := of_decide_eq_false cc
    obtain ⟨y, hy⟩ : ∃ y, ixs[S.at_.toNat]? = some y := ⟨_, List.getElem?_eq_getElem (by omega)⟩
    obtain ⟨ins, hins, a, rfl, ha⟩ := Paired.at_ hC6.is hy
    have hoki := hok.ins ins (List.mem_of_getElem? hins)
    rw [stepM_at hins] at hrun2
    have hya : atI ixs S.at_ = some (.ref a) := by
      rw [← haa]
      exact atI_nat hy
    obtain ⟨g, b, v, rr, h1, h2, h3, h4, h5, h6, h7⟩ := L.frs.hd
    obtain ⟨l1, l2, l3, l4, l5⟩ := rev_last h1
    refine ⟨_, rfl, _, rfl, s, _, _, _, rfl, rfl, SqT.of hC6.s, hya, _, rfl, _, rfl, fr, FL, _, _, rfl, rfl, SqL.of L.frl, atI_last l3 (by omega), g, _, _, _, rfl, rfl, SqT.of h2, rfl, _, _, rfl, ?_⟩
    intro pd hpd
    refine ⟨upd_same, dtk, rfl, by decide, ?_⟩
    have xd : Ex H6 (upd (upd H6 pd (.dK [])) pd (.dK (mergeK [] dtk))) := Ex.at (Ex.new hpd) hpd
    have gd : (upd (upd H6 pd (.dK [])) pd (.dK (mergeK [] dtk))) pd = some (.dK (mergeK [] dtk)) := upd_same
    generalize (upd (upd H6 pd (.dK [])) pd (.dK (mergeK [] dtk))) = H7 at xd gd
    have ha7 := xd _ _ ha
    refine ⟨pd, rfl, .inl ⟨_, .inl gd⟩, _, rfl, a, _, _, _, rfl, rfl, SqT.of ha7, ins.v0, _, DGet.k (k := .inr ins.tag) gd, ?_⟩
    rw [tk0_get]
    refine ⟨_, rfl, a, _, _, _, rfl, rfl, SqT.of ha7, ins.v0, z2, ?_⟩
    intro p8 hp_p8
    generalize hG_p8 : upd _ p8 _ = H8
    obtain ⟨x8, g8⟩ := nw hp_p8 hG_p8
    refine ⟨p8, _, rfl, .inl (SqL.of g8), rfl, by simp [flatV], _, rfl, ?_⟩
    have x68 := xd.trans x8
    have hC8 := hC6.mono (Tx.of x68)
    have ha8 := x8 _ _ ha7
    refine ite_key (H := H8) (v := .int (tkN es ins : Nat)) (A := tOp _ _ _ _ _) (B := tVar _ _ _) (fun z Q0 q0 => ?_) (fun z Q0 q0 => ?_) ?_
    · have hcase : ∃ j, ins.v = [.str ins.tag, .int j] ∧ 0 ≤ j ∧ j < (es.length : Int) ∧ tkN es ins = ((es[j.toNat]?).map fun e => e.2.toNat).getD 0 := by
        have z := (tagI ins).symm.trans z
        cases ins with
        | call j => exact ⟨j, rfl, hoki.1, hoki.2, rfl⟩
        | tail j => exact ⟨j, rfl, hoki.1, hoki.2, rfl⟩
        | _ => cases z
      obtain ⟨j, hv, hj0, hj1, htk⟩ := hcase
      obtain ⟨en, ea, hen, hea1, hea2⟩ := hC8.en hj0 hj1
      have heo := hok.ent en (List.mem_of_getElem? hen)
      rw [hen] at htk
      have hmn : en.2 = ((tkN es ins : Nat) : Int) := by
        rw [htk]
        show en.2 = (en.2.toNat : Int)
        omega
      rw [hv] at ha8
      refine ⟨_, rfl, _, rfl, a, _, _, _, rfl, rfl, SqT.of ha8, rfl, e, _, _, _, rfl, rfl, SqT.of hC8.e, hea1, ea, _, _, _, rfl, rfl, SqT.of hea2, rfl, ?_⟩
      rw [hmn]
      exact q0
    · have z := (tagI ins).symm.trans z
      refine ⟨_, rfl, ?_⟩
      rw [tk0_N z] at *
      exact q0
    have L8 := L.ex x68
    have hsl : (S.stack.map V.int).length = S.stack.length := List.length_map ..
    by_cases hlt : S.stack.length < tkN es ins
    · refine ⟨_, rfl, st, _, rfl, .inl (SqL.of L8.lst), _, rfl, _, _, rfl, rfl, _, rfl, ifT (decide_eq_true (by omega)) (ifT rfl ?_)⟩
      rw [stk_lt hlt] at hrun2
      refine ⟨_, rfl, z2, ?_⟩
      intro p9 hp_p9
      generalize hG_p9 : upd _ p9 _ = H9
      obtain ⟨x9, g9⟩ := nw hp_p9 hG_p9
      exact qE _ hrun2 p9 H9 ((x6.trans x68).trans x9) g9
    refine ⟨_, rfl, st, _, rfl, .inl (SqL.of L8.lst), _, rfl, _, _, rfl, rfl, _, rfl, ifF (decide_eq_false (by omega)) ?_⟩
    by_cases hA : ∃ k, ins = .arg k
    · obtain ⟨k, rfl⟩ := hA
      have hk0 := hoki.1
      have hb8 := x68 _ _ h3
      have hol : (S.own.map V.int).length = S.own.length := List.length_map ..
      refine ⟨_, rfl, a, _, _, _, rfl, rfl, SqT.of ha8, rfl, rfl, _, rfl, ifT (by decide +kernel) ?_⟩
      refine ⟨_, rfl, a, _, _, _, rfl, rfl, SqT.of ha8, rfl, _, rfl, b, _, rfl, .inl (SqL.of hb8), _, _, rfl, rfl, _, rfl, ?_⟩
      by_cases hko : S.own.length ≤ k.toNat
      · refine ifT (decide_eq_true (by omega)) ?_
        have e1 : stepI es S (.arg k) = .stuck := by simp only [stepI, List.getElem?_eq_none hko]
        rw [e1] at hrun2
        refine ⟨_, rfl, z2, ?_⟩
        intro p9 hp_p9
        generalize hG_p9 : upd _ p9 _ = H9
        obtain ⟨x9, g9⟩ := nw hp_p9 hG_p9
        exact qE _ hrun2 p9 H9 ((x6.trans x68).trans x9) g9
      · refine ifF (decide_eq_false (by omega)) ?_
        obtain ⟨n, hn⟩ : ∃ n, S.own[k.toNat]? = some n := ⟨_, List.getElem?_eq_getElem (by omega)⟩
        have hkk : ((k.toNat : Nat) : Int) = k := by omega
        have hat : atI (S.own.map V.int) k = some (.int n) := by
          rw [← hkk]
          exact atI_nat (by rw [List.getElem?_map, hn]; rfl)
        have hs : stepI es S (.arg k) = .go (putM S (S.at_ + 1) n) := by simp only [stepI, hn]
        refine ⟨_, rfl, _, rfl, st, _, rfl, .inl (SqL.of L8.lst), _, rfl, _, _, rfl, rfl, _, rfl, st, _, rfl, SqL.of L8.lst, ?_⟩
        intro pu hp_pu
        generalize hG_pu : upd _ pu _ = H9
        obtain ⟨x9, gu⟩ := nw hp_pu hG_pu
        rw [cut_lo rfl (by omega)] at gu
        have L9 := L8.ex x9
        refine ⟨_, rfl, _, rfl, st, _, rfl, .inl (SqL.of L9.lst), _, rfl, _, _, rfl, rfl, _, rfl, st, _, rfl, SqL.of L9.lst, ?_⟩
        intro pl hp_pl
        generalize hG_pl : upd _ pl _ = H10
        obtain ⟨x10, gl⟩ := nw hp_pl hG_pl
        rw [cut_hi rfl (by omega)] at gl
        refine ⟨_, _, rfl, ?_⟩
        have L10 := L9.ex x10
        have gu10 := x10 _ _ gu
        have x810 := x9.trans x10
        have ha10 := x810 _ _ ha8
        have hC10 := hC8.mono (Tx.of x810)
        have x610 := (x6.trans x68).trans x810
        refine ⟨_, rfl, a, _, _, _, rfl, rfl, SqT.of ha10, rfl, rfl, _, rfl, ifF (by decide +kernel) ?_⟩
        refine ⟨_, rfl, a, _, _, _, rfl, rfl, SqT.of ha10, rfl, rfl, _, rfl, ifF (by decide +kernel) ?_⟩
        refine ⟨_, rfl, a, _, _, _, rfl, rfl, SqT.of ha10, rfl, rfl, _, rfl, ifF (by decide +kernel) ?_⟩
        refine ⟨_, rfl, a, _, _, _, rfl, rfl, SqT.of ha10, rfl, rfl, _, rfl, ifF (by decide +kernel) ?_⟩
        refine ⟨_, rfl, a, _, _, _, rfl, rfl, SqT.of ha10, rfl, rfl, _, rfl, ifF (by decide +kernel) (ifF rfl ?_)⟩
        refine ⟨_, rfl, _, _, rfl, rfl, ?_⟩
        refine ⟨_, rfl, a, _, _, _, rfl, rfl, SqT.of ha10, rfl, rfl, _, rfl, ifF (by decide +kernel) ?_⟩
        refine ⟨_, rfl, a, _, _, _, rfl, rfl, SqT.of ha10, rfl, rfl, _, rfl, ifT (by decide +kernel) ?_⟩
        refine ⟨_, rfl, ?_⟩
        refine ⟨_, rfl, a, _, _, _, rfl, rfl, SqT.of ha10, rfl, rfl, _, rfl, ifF (by decide +kernel) ?_⟩
        refine ⟨_, rfl, _, rfl, a, _, _, _, rfl, rfl, SqT.of ha10, rfl, b, _, _, _, rfl, rfl, SqL.of (x810 _ _ hb8), hat, ?_⟩
        refine ⟨z1, ?_⟩
        intro pe hp_pe
        generalize hG_pe : upd _ pe _ = H11
        obtain ⟨x11, ge⟩ := nw hp_pe hG_pe
        refine ⟨pl, pe, _, _, rfl, rfl, x11 _ _ gl, ge, sz (by rw [List.length_map, List.length_singleton]; have := lok_len (S := S) (k := tkN es (.arg k)); have h0 := hW.sn; show (lok S (tkN es (.arg k))).length + 1 ≤ 1000000; omega), ?_⟩
        intro pf hp_pf
        generalize hG_pf : upd _ pf _ = H12
        obtain ⟨x12, gf⟩ := nw hp_pf hG_pf
        have L12 : LI H12 c pf fr FL (putM S (S.at_ + 1) n) := ⟨gf.trans (congrArg (fun l => some (HO.lst l)) ((List.map_append (f := V.int) (l₁ := lok S (tkN es (.arg k))) (l₂ := [n])).symm.trans (congrArg (fun l : List Int => (l ++ [n]).map V.int) (lok0 (l := S.stack))))), x12 _ _ (x11 _ _ L10.frl), (L10.frs.ex x11).ex x12⟩
        have L13 : LI H12 c pf fr FL (putM S (S.at_ + 1) n) := L12
        obtain ⟨em, eh⟩ := stepI_mm hW hs
        have efl := L13.frs.len
        rw [List.length_reverse] at efl
        refine ⟨_, rfl, _, rfl, fr, _, rfl, .inl (SqL.of L13.frl), _, _, rfl, _, rfl, _, rfl, pf, _, rfl, .inl (SqL.of L13.lst), _, _, rfl, _, _, rfl, ?_⟩
        have e1 : (if (((FL).length : Nat) : Int) > S.mf then (((FL).length : Nat) : Int) else S.mf) = ((putM S (S.at_ + 1) n)).mf := by
          rw [max2]
          exact Eq.trans (by rw [efl] <;> rfl) em.symm
        have e2 : (if (((((putM S (S.at_ + 1) n)).stack.map V.int).length : Nat) : Int) > S.ms then (((((putM S (S.at_ + 1) n)).stack.map V.int).length : Nat) : Int) else S.ms) = ((putM S (S.at_ + 1) n)).ms := by
          rw [max2, List.length_map]
          exact eh.symm
        rw [e1, e2]
        rw [hs] at hrun2
        have e3 : (1 : Int) + i + 1 = 1 + ((i + 1 : Nat) : Int) := by omega
        simp only [e3] at hrun2
        exact ⟨_, _, _, _, _, (putM S (S.at_ + 1) n), pf, fr, FL, rfl, (x610.trans (x11.trans x12)), L13, hW.step hok ((stepM_at hins).trans hs), hrun2⟩
    refine ⟨_, rfl, a, _, _, _, rfl, rfl, SqT.of ha8, ins.v0, rfl, _, rfl, ifF (tagA hA) (ifF rfl ?_)⟩
    refine ⟨_, rfl, _, rfl, st, _, rfl, .inl (SqL.of L8.lst), _, rfl, _, _, rfl, rfl, _, rfl, st, _, rfl, SqL.of L8.lst, ?_⟩
    intro pu hp_pu
    generalize hG_pu : upd _ pu _ = H9
    obtain ⟨x9, gu⟩ := nw hp_pu hG_pu
    rw [cut_lo rfl (by omega)] at gu
    have L9 := L8.ex x9
    refine ⟨_, rfl, _, rfl, st, _, rfl, .inl (SqL.of L9.lst), _, rfl, _, _, rfl, rfl, _, rfl, st, _, rfl, SqL.of L9.lst, ?_⟩
    intro pl hp_pl
    generalize hG_pl : upd _ pl _ = H10
    obtain ⟨x10, gl⟩ := nw hp_pl hG_pl
    rw [cut_hi rfl (by omega)] at gl
    refine ⟨_, _, rfl, ?_⟩
    have L10 := L9.ex x10
    have gu10 := x10 _ _ gu
    have x810 := x9.trans x10
    have ha10 := x810 _ _ ha8
    have hC10 := hC8.mono (Tx.of x810)
    have x610 := (x6.trans x68).trans x810
    cases ins with
    | arg k => exact absurd ⟨k, rfl⟩ hA
    | back =>
      have gl0 : H10 pl = some (.lst (S.stack.map V.int)) := gl.trans (congrArg (fun l : List Int => some (HO.lst (l.map V.int))) lok0)
      have hfl := L10.frs.len
      rw [List.length_reverse] at hfl
      refine ⟨_, rfl, a, _, _, _, rfl, rfl, SqT.of ha10, rfl, rfl, _, rfl, ifT (by decide +kernel) ?_⟩
      refine ⟨_, rfl, fr, _, rfl, .inl (SqL.of L10.frl), rfl, _, rfl, ?_⟩
      cases hu : S.up with
      | nil =>
        rw [hu] at hfl
        refine ifT (decide_eq_true (by rw [hfl]; rfl)) ?_
        refine ⟨_, rfl, pl, _, rfl, .inl (SqL.of gl0), rfl, _, rfl, ?_⟩
        by_cases h1 : S.stack.length = 1
        · have hs : stepI es S .back = .fin := by simp only [stepI, hu, if_pos h1]
          rw [hs] at hrun2
          obtain ⟨v1, hv1⟩ := List.length_eq_one_iff.mp h1
          rw [hv1] at gl0 hrun2
          refine ifT (decide_eq_true (by rw [hsl, h1]; rfl)) ?_
          refine ⟨_, rfl, pl, _, _, _, rfl, rfl, SqL.of gl0, rfl, _, rfl, _, rfl, _, rfl, z4, ?_⟩
          intro p7 hp_p7
          generalize hG_p7 : upd _ p7 _ = H11
          obtain ⟨x11, g7⟩ := nw hp_p7 hG_p7
          exact qD _ _ _ _ hrun2 p7 H11 (x610.trans x11) g7
        · have hs : stepI es S .back = .stuck := by simp only [stepI, hu, if_neg h1]
          rw [hs] at hrun2
          refine ifF (decide_eq_false (fun z => h1 (by have := V.int.inj z; omega))) ?_
          refine ⟨_, rfl, z2, ?_⟩
          intro p7 hp_p7
          generalize hG_p7 : upd _ p7 _ = H11
          obtain ⟨x11, g7⟩ := nw hp_p7 hG_p7
          exact qE _ hrun2 p7 H11 (x610.trans x11) g7
      | cons r u =>
        rw [hu, List.length_cons] at hfl
        obtain ⟨hv, hrr⟩ := h6 r u hu
        have hs : stepI es S .back = .go { S with at_ := r.1, up := u } := by simp only [stepI, hu]
        refine ifF (decide_eq_false (fun z => by have := V.int.inj z; omega)) ?_
        refine ⟨_, rfl, _, rfl, fr, FL, _, _, rfl, rfl, SqL.of L10.frl, atI_last l3 (by omega), g, _, _, _, rfl, rfl, SqT.of (x810 _ _ (x68 _ _ h2)), rfl, _, rfl, _, rfl, _, rfl, fr, _, rfl, SqL.of L10.frl, ?_⟩
        rw [cut_m1, l5]
        intro pf hp_pf
        generalize hG_pf : upd _ pf _ = H11
        obtain ⟨x11, gf⟩ := nw hp_pf hG_pf
        rw [hv]
        refine ⟨_, _, rfl, ?_⟩
        have L13 : LI H11 c pl pf rr.reverse { S with at_ := r.1, up := u } := ⟨x11 _ _ gl0, gf, by
          rw [List.reverse_reverse]
          exact (hrr.ex (x68.trans x810)).ex x11⟩
        obtain ⟨em, eh⟩ := stepI_mm hW hs
        have efl := L13.frs.len
        rw [List.length_reverse] at efl
        refine ⟨_, rfl, _, rfl, pf, _, rfl, .inl (SqL.of L13.frl), _, _, rfl, _, rfl, _, rfl, pl, _, rfl, .inl (SqL.of L13.lst), _, _, rfl, _, _, rfl, ?_⟩
        have e1 : (if (((rr.reverse).length : Nat) : Int) > S.mf then (((rr.reverse).length : Nat) : Int) else S.mf) = (({ S with at_ := r.1, up := u } : MS)).mf := by
          rw [max2]
          exact Eq.trans (by rw [efl] <;> rfl) em.symm
        have e2 : (if ((((({ S with at_ := r.1, up := u } : MS)).stack.map V.int).length : Nat) : Int) > S.ms then ((((({ S with at_ := r.1, up := u } : MS)).stack.map V.int).length : Nat) : Int) else S.ms) = (({ S with at_ := r.1, up := u } : MS)).ms := by
          rw [max2, List.length_map]
          exact eh.symm
        rw [e1, e2]
        rw [hs] at hrun2
        have e3 : (1 : Int) + i + 1 = 1 + ((i + 1 : Nat) : Int) := by omega
        simp only [e3] at hrun2
        exact ⟨_, _, _, _, _, ({ S with at_ := r.1, up := u } : MS), pl, pf, rr.reverse, rfl, (x610.trans x11), L13, hW.step hok ((stepM_at hins).trans hs), hrun2⟩
    | call j =>
      obtain ⟨en, ea, hen, hea1, hea2⟩ := hC10.en hoki.1 hoki.2
      have hea3 := hea2
      have hlt2 : ¬ S.stack.length < en.2.toNat := by
        have h0 : tkN es (.call j) = en.2.toNat := by simp [tkN, hen]
        omega
      have htk : tkN es (.call j) = en.2.toNat := by simp [tkN, hen]
      rw [htk] at gl gu10
      have hs : stepI es S (.call j) = .go { S with at_ := en.1, stack := lok S en.2.toNat, up := (S.at_ + 1, upk S en.2.toNat) :: S.up, mf := max S.mf (S.up.length + 2) } := by simp only [stepI, hen, if_neg hlt2]
      refine ⟨_, rfl, a, _, _, _, rfl, rfl, SqT.of ha10, rfl, rfl, _, rfl, ifF (by decide +kernel) ?_⟩
      refine ⟨_, rfl, a, _, _, _, rfl, rfl, SqT.of ha10, rfl, rfl, _, rfl, ifT (by decide +kernel) ?_⟩
      refine ⟨_, rfl, _, rfl, _, _, rfl, rfl, _, rfl, z2, ?_⟩
      intro pt hp_pt
      generalize hG_pt : upd _ pt _ = H11
      obtain ⟨x11, gt⟩ := nw hp_pt hG_pt
      refine ⟨z1, ?_⟩
      intro pq hp_pq
      generalize hG_pq : upd _ pq _ = H12
      obtain ⟨x12, gq⟩ := nw hp_pq hG_pq
      have hfl := L10.frs.len
      rw [List.length_reverse] at hfl
      have hun := hW.un
      refine ⟨fr, pq, _, _, rfl, rfl, x12 _ _ (x11 _ _ L10.frl), gq, sz (by rw [List.length_singleton]; omega), ?_⟩
      intro pf hp_pf
      generalize hG_pf : upd _ pf _ = H13
      obtain ⟨x13, gf⟩ := nw hp_pf hG_pf
      have x1013 := x11.trans (x12.trans x13)
      have hC13 := hC10.mono (Tx.of x1013)
      refine ⟨_, rfl, _, rfl, a, _, _, _, rfl, rfl, SqT.of (x1013 _ _ ha10), rfl, e, _, _, _, rfl, rfl, SqT.of hC13.e, hea1, ea, _, _, _, rfl, rfl, SqT.of (x1013 _ _ hea2), rfl, _, _, rfl, ?_⟩
      have L13 : LI H13 c pl pf (FL ++ [.ref pt]) { S with at_ := en.1, stack := lok S en.2.toNat, up := (S.at_ + 1, upk S en.2.toNat) :: S.up, mf := max S.mf (S.up.length + 2) } := ⟨x1013 _ _ gl, gf, by
        rw [List.reverse_append]
        exact ⟨pt, pu, FL.reverse, rfl, x13 _ _ (x12 _ _ gt), x1013 _ _ gu10, fun z => (by have := hC10.c; rw [← z, gu10] at this; cases this), fun z => (by have := hC10.c; rw [← z, gu10] at this; cases this), L10.frs.ex x1013⟩⟩
      obtain ⟨em, eh⟩ := stepI_mm hW hs
      have efl := L13.frs.len
      rw [List.length_reverse] at efl
      refine ⟨_, rfl, _, rfl, pf, _, rfl, .inl (SqL.of L13.frl), _, _, rfl, _, rfl, _, rfl, pl, _, rfl, .inl (SqL.of L13.lst), _, _, rfl, _, _, rfl, ?_⟩
      have e1 : (if ((((FL ++ [V.ref pt])).length : Nat) : Int) > S.mf then ((((FL ++ [V.ref pt])).length : Nat) : Int) else S.mf) = (({ S with at_ := en.1, stack := lok S en.2.toNat, up := (S.at_ + 1, upk S en.2.toNat) :: S.up, mf := max S.mf (S.up.length + 2) } : MS)).mf := by
        rw [max2]
        exact Eq.trans (by rw [efl] <;> rfl) em.symm
      have e2 : (if ((((({ S with at_ := en.1, stack := lok S en.2.toNat, up := (S.at_ + 1, upk S en.2.toNat) :: S.up, mf := max S.mf (S.up.length + 2) } : MS)).stack.map V.int).length : Nat) : Int) > S.ms then ((((({ S with at_ := en.1, stack := lok S en.2.toNat, up := (S.at_ + 1, upk S en.2.toNat) :: S.up, mf := max S.mf (S.up.length + 2) } : MS)).stack.map V.int).length : Nat) : Int) else S.ms) = (({ S with at_ := en.1, stack := lok S en.2.toNat, up := (S.at_ + 1, upk S en.2.toNat) :: S.up, mf := max S.mf (S.up.length + 2) } : MS)).ms := by
        rw [max2, List.length_map]
        exact eh.symm
      rw [e1, e2]
      rw [hs] at hrun2
      have e3 : (1 : Int) + i + 1 = 1 + ((i + 1 : Nat) : Int) := by omega
      simp only [e3] at hrun2
      exact ⟨_, _, _, _, _, ({ S with at_ := en.1, stack := lok S en.2.toNat, up := (S.at_ + 1, upk S en.2.toNat) :: S.up, mf := max S.mf (S.up.length + 2) } : MS), pl, pf, (FL ++ [V.ref pt]), rfl, (x610.trans x1013), L13, hW.step hok ((stepM_at hins).trans hs), hrun2⟩
    | tail j =>
      obtain ⟨en, ea, hen, hea1, hea2⟩ := hC10.en hoki.1 hoki.2
      have htk : tkN es (.tail j) = en.2.toNat := by simp [tkN, hen]
      have hlt2 : ¬ S.stack.length < en.2.toNat := by omega
      rw [htk] at gl gu10
      refine ⟨_, rfl, a, _, _, _, rfl, rfl, SqT.of ha10, rfl, rfl, _, rfl, ifF (by decide +kernel) ?_⟩
      refine ⟨_, rfl, a, _, _, _, rfl, rfl, SqT.of ha10, rfl, rfl, _, rfl, ifF (by decide +kernel) ?_⟩
      refine ⟨_, rfl, a, _, _, _, rfl, rfl, SqT.of ha10, rfl, rfl, _, rfl, ifT (by decide +kernel) ?_⟩
      refine ⟨_, rfl, _, rfl, _, rfl, fr, _, rfl, SqL.of L10.frl, ?_⟩
      rw [cut_m1, l5]
      intro pd2 hp_pd2
      generalize hG_pd2 : upd _ pd2 _ = H11
      obtain ⟨x11, gd2⟩ := nw hp_pd2 hG_pd2
      have h210 := x610.trans x11
      refine ⟨_, rfl, _, rfl, fr, FL, _, _, rfl, rfl, SqL.of (x11 _ _ L10.frl), atI_last l3 (by omega), g, _, _, _, rfl, rfl, SqT.of (x11 _ _ (x810 _ _ (x68 _ _ h2))), rfl, _, rfl, z2, ?_⟩
      intro pt hp_pt
      generalize hG_pt : upd _ pt _ = H12
      obtain ⟨x12, gt⟩ := nw hp_pt hG_pt
      refine ⟨z1, ?_⟩
      intro pq hp_pq
      generalize hG_pq : upd _ pq _ = H13
      obtain ⟨x13, gq⟩ := nw hp_pq hG_pq
      have hfl := L10.frs.len
      rw [List.length_reverse] at hfl
      have hun := hW.un
      refine ⟨pd2, pq, _, _, rfl, rfl, x13 _ _ (x12 _ _ gd2), gq, sz (by rw [List.length_singleton, List.length_reverse]; omega), ?_⟩
      intro pf hp_pf
      generalize hG_pf : upd _ pf _ = H14
      obtain ⟨x14, gf⟩ := nw hp_pf hG_pf
      have x1014 := x11.trans (x12.trans (x13.trans x14))
      have hC14 := hC10.mono (Tx.of x1014)
      refine ⟨_, rfl, _, rfl, a, _, _, _, rfl, rfl, SqT.of (x1014 _ _ ha10), rfl, e, _, _, _, rfl, rfl, SqT.of hC14.e, hea1, ea, _, _, _, rfl, rfl, SqT.of (x1014 _ _ hea2), rfl, _, _, rfl, ?_⟩
      have nc : pu ≠ c := fun z => by
        have := hC10.c
        rw [← z, gu10] at this
        cases this
      cases hu : S.up with
      | nil =>
        obtain ⟨hv, hrr⟩ := h7 hu
        have hs : stepI es S (.tail j) = .go { S with at_ := en.1, stack := lok S en.2.toNat, l0 := upk S en.2.toNat } := by simp only [stepI, hen, if_neg hlt2, hu]
        have L13 : LI H14 c pl pf (rr.reverse ++ [.ref pt]) { S with at_ := en.1, stack := lok S en.2.toNat, l0 := upk S en.2.toNat } := ⟨x1014 _ _ gl, gf, by
          rw [List.reverse_append]
          show FrR H14 c c _ S.up _
          rw [hu]
          refine ⟨pt, pu, ?_, ?_, x1014 _ _ gu10, nc, nc⟩
          · rw [hrr]
            rfl
          · rw [← hv]
            exact x14 _ _ (x13 _ _ gt)⟩
        obtain ⟨em, eh⟩ := stepI_mm hW hs
        have efl := L13.frs.len
        rw [List.length_reverse] at efl
        refine ⟨_, rfl, _, rfl, pf, _, rfl, .inl (SqL.of L13.frl), _, _, rfl, _, rfl, _, rfl, pl, _, rfl, .inl (SqL.of L13.lst), _, _, rfl, _, _, rfl, ?_⟩
        have e1 : (if ((((rr.reverse ++ [V.ref pt])).length : Nat) : Int) > S.mf then ((((rr.reverse ++ [V.ref pt])).length : Nat) : Int) else S.mf) = (({ S with at_ := en.1, stack := lok S en.2.toNat, l0 := upk S en.2.toNat } : MS)).mf := by
          rw [max2]
          exact Eq.trans (by rw [efl] <;> rfl) em.symm
        have e2 : (if ((((({ S with at_ := en.1, stack := lok S en.2.toNat, l0 := upk S en.2.toNat } : MS)).stack.map V.int).length : Nat) : Int) > S.ms then ((((({ S with at_ := en.1, stack := lok S en.2.toNat, l0 := upk S en.2.toNat } : MS)).stack.map V.int).length : Nat) : Int) else S.ms) = (({ S with at_ := en.1, stack := lok S en.2.toNat, l0 := upk S en.2.toNat } : MS)).ms := by
          rw [max2, List.length_map]
          exact eh.symm
        rw [e1, e2]
        rw [hs] at hrun2
        have e3 : (1 : Int) + i + 1 = 1 + ((i + 1 : Nat) : Int) := by omega
        simp only [e3] at hrun2
        exact ⟨_, _, _, _, _, ({ S with at_ := en.1, stack := lok S en.2.toNat, l0 := upk S en.2.toNat } : MS), pl, pf, (rr.reverse ++ [V.ref pt]), rfl, (x610.trans x1014), L13, hW.step hok ((stepM_at hins).trans hs), hrun2⟩
      | cons r u =>
        obtain ⟨hv, hrr⟩ := h6 r u hu
        have hs : stepI es S (.tail j) = .go { S with at_ := en.1, stack := lok S en.2.toNat, up := (r.1, upk S en.2.toNat) :: u } := by simp only [stepI, hen, if_neg hlt2, hu]
        have L13 : LI H14 c pl pf (rr.reverse ++ [.ref pt]) { S with at_ := en.1, stack := lok S en.2.toNat, up := (r.1, upk S en.2.toNat) :: u } := ⟨x1014 _ _ gl, gf, by
          rw [List.reverse_append, List.reverse_reverse]
          refine ⟨pt, pu, rr, rfl, ?_, x1014 _ _ gu10, nc, nc, (hrr.ex (x68.trans x810)).ex x1014⟩
          show H14 pt = some (.tup [.int r.1, .ref pu])
          rw [← hv]
          exact x14 _ _ (x13 _ _ gt)⟩
        obtain ⟨em, eh⟩ := stepI_mm hW hs
        have efl := L13.frs.len
        rw [List.length_reverse] at efl
        refine ⟨_, rfl, _, rfl, pf, _, rfl, .inl (SqL.of L13.frl), _, _, rfl, _, rfl, _, rfl, pl, _, rfl, .inl (SqL.of L13.lst), _, _, rfl, _, _, rfl, ?_⟩
        have e1 : (if ((((rr.reverse ++ [V.ref pt])).length : Nat) : Int) > S.mf then ((((rr.reverse ++ [V.ref pt])).length : Nat) : Int) else S.mf) = (({ S with at_ := en.1, stack := lok S en.2.toNat, up := (r.1, upk S en.2.toNat) :: u } : MS)).mf := by
          rw [max2]
          exact Eq.trans (by rw [efl] <;> rfl) em.symm
        have e2 : (if ((((({ S with at_ := en.1, stack := lok S en.2.toNat, up := (r.1, upk S en.2.toNat) :: u } : MS)).stack.map V.int).length : Nat) : Int) > S.ms then ((((({ S with at_ := en.1, stack := lok S en.2.toNat, up := (r.1, upk S en.2.toNat) :: u } : MS)).stack.map V.int).length : Nat) : Int) else S.ms) = (({ S with at_ := en.1, stack := lok S en.2.toNat, up := (r.1, upk S en.2.toNat) :: u } : MS)).ms := by
          rw [max2, List.length_map]
          exact eh.symm
        rw [e1, e2]
        rw [hs] at hrun2
        have e3 : (1 : Int) + i + 1 = 1 + ((i + 1 : Nat) : Int) := by omega
        simp only [e3] at hrun2
        exact ⟨_, _, _, _, _, ({ S with at_ := en.1, stack := lok S en.2.toNat, up := (r.1, upk S en.2.toNat) :: u } : MS), pl, pf, (rr.reverse ++ [V.ref pt]), rfl, (x610.trans x1014), L13, hW.step hok ((stepM_at hins).trans hs), hrun2⟩
    | jump n =>
      refine ⟨_, rfl, a, _, _, _, rfl, rfl, SqT.of ha10, rfl, rfl, _, rfl, ifF (by decide +kernel) ?_⟩
      refine ⟨_, rfl, a, _, _, _, rfl, rfl, SqT.of ha10, rfl, rfl, _, rfl, ifF (by decide +kernel) ?_⟩
      refine ⟨_, rfl, a, _, _, _, rfl, rfl, SqT.of ha10, rfl, rfl, _, rfl, ifF (by decide +kernel) ?_⟩
      refine ⟨_, rfl, a, _, _, _, rfl, rfl, SqT.of ha10, rfl, rfl, _, rfl, ifT (by decide +kernel) (ifT rfl ?_)⟩
      refine ⟨_, rfl, a, _, _, _, rfl, rfl, SqT.of ha10, rfl, ?_⟩
      have hs : stepI es S (.jump n) = .go { S with at_ := n } := rfl
      have L11 : LI H10 c pl fr FL { S with at_ := n } := ⟨gl.trans (congrArg (fun l : List Int => some (HO.lst (l.map V.int))) lok0), L10.frl, L10.frs⟩
      obtain ⟨em, eh⟩ := stepI_mm hW hs
      have efl := L11.frs.len
      rw [List.length_reverse] at efl
      refine ⟨_, rfl, _, rfl, fr, _, rfl, .inl (SqL.of L11.frl), _, _, rfl, _, rfl, _, rfl, pl, _, rfl, .inl (SqL.of L11.lst), _, _, rfl, _, _, rfl, ?_⟩
      have e1 : (if (((FL).length : Nat) : Int) > S.mf then (((FL).length : Nat) : Int) else S.mf) = (({ S with at_ := n } : MS)).mf := by
        rw [max2]
        exact Eq.trans (by rw [efl] <;> rfl) em.symm
      have e2 : (if ((((({ S with at_ := n } : MS)).stack.map V.int).length : Nat) : Int) > S.ms then ((((({ S with at_ := n } : MS)).stack.map V.int).length : Nat) : Int) else S.ms) = (({ S with at_ := n } : MS)).ms := by
        rw [max2, List.length_map]
        exact eh.symm
      rw [e1, e2]
      rw [hs] at hrun2
      have e3 : (1 : Int) + i + 1 = 1 + ((i + 1 : Nat) : Int) := by omega
      simp only [e3] at hrun2
      exact ⟨_, _, _, _, _, ({ S with at_ := n } : MS), pl, fr, FL, rfl, x610, L11, hW.step hok ((stepM_at hins).trans hs), hrun2⟩
    | zero n =>
      have hl1 : 1 ≤ S.stack.length := by have h0 : ¬ S.stack.length < 1 := hlt; omega
      obtain ⟨x, hxy⟩ : ∃ x, upk S 1 = [x] := List.length_eq_one_iff.mp (upk_len hl1)
      have gu11 : H10 pu = some (.lst [.int x]) := gu10.trans (congrArg (fun l : List Int => some (HO.lst (l.map V.int))) hxy)
      have hs0 : stepI es S (.zero n) = .go { S with at_ := if [x] = [0] then n else S.at_ + 1, stack := lok S 1 } := by
        simp only [stepI, hxy]
        exact if_neg (by omega)
      refine ⟨_, rfl, a, _, _, _, rfl, rfl, SqT.of ha10, rfl, rfl, _, rfl, ifF (by decide +kernel) ?_⟩
      refine ⟨_, rfl, a, _, _, _, rfl, rfl, SqT.of ha10, rfl, rfl, _, rfl, ifF (by decide +kernel) ?_⟩
      refine ⟨_, rfl, a, _, _, _, rfl, rfl, SqT.of ha10, rfl, rfl, _, rfl, ifF (by decide +kernel) ?_⟩
      refine ⟨_, rfl, a, _, _, _, rfl, rfl, SqT.of ha10, rfl, rfl, _, rfl, ifF (by decide +kernel) ?_⟩
      refine ⟨_, rfl, a, _, _, _, rfl, rfl, SqT.of ha10, rfl, rfl, _, rfl, ifT (by decide +kernel) ?_⟩
      refine ⟨_, rfl, z1, ?_⟩
      intro pz hp_pz
      generalize hG_pz : upd _ pz _ = H11
      obtain ⟨x11, gz⟩ := nw hp_pz hG_pz
      have ha11 := x11 _ _ ha10
      have L11 : LI H11 c pl fr FL { S with stack := lok S 1 } := ⟨x11 _ _ gl, x11 _ _ L10.frl, L10.frs.ex x11⟩
      refine ⟨.list [.int x], .list [.int 0], .lst (SqL.of (x11 _ _ gu11)) (.cons (.int x) .nil), .lst (SqL.of gz) (.cons (.int 0) .nil), rfl, rfl, _, rfl, ?_⟩
      by_cases hx0 : x = 0
      · subst hx0
        have hs : stepI es S (.zero n) = .go { S with at_ := n, stack := lok S 1 } := hs0.trans (by rw [if_pos rfl])
        refine ifT rfl ⟨_, rfl, a, _, _, _, rfl, rfl, SqT.of ha11, rfl, ?_⟩
        have L13 : LI H11 c pl fr FL { S with at_ := n, stack := lok S 1 } := ⟨L11.lst, L11.frl, L11.frs⟩
        obtain ⟨em, eh⟩ := stepI_mm hW hs
        have efl := L13.frs.len
        rw [List.length_reverse] at efl
        refine ⟨_, rfl, _, rfl, fr, _, rfl, .inl (SqL.of L13.frl), _, _, rfl, _, rfl, _, rfl, pl, _, rfl, .inl (SqL.of L13.lst), _, _, rfl, _, _, rfl, ?_⟩
        have e1 : (if (((FL).length : Nat) : Int) > S.mf then (((FL).length : Nat) : Int) else S.mf) = (({ S with at_ := n, stack := lok S 1 } : MS)).mf := by
          rw [max2]
          exact Eq.trans (by rw [efl] <;> rfl) em.symm
        have e2 : (if ((((({ S with at_ := n, stack := lok S 1 } : MS)).stack.map V.int).length : Nat) : Int) > S.ms then ((((({ S with at_ := n, stack := lok S 1 } : MS)).stack.map V.int).length : Nat) : Int) else S.ms) = (({ S with at_ := n, stack := lok S 1 } : MS)).ms := by
          rw [max2, List.length_map]
          exact eh.symm
        rw [e1, e2]
        rw [hs] at hrun2
        have e3 : (1 : Int) + i + 1 = 1 + ((i + 1 : Nat) : Int) := by omega
        simp only [e3] at hrun2
        exact ⟨_, _, _, _, _, ({ S with at_ := n, stack := lok S 1 } : MS), pl, fr, FL, rfl, (x610.trans x11), L13, hW.step hok ((stepM_at hins).trans hs), hrun2⟩
      · have hs : stepI es S (.zero n) = .go { S with at_ := S.at_ + 1, stack := lok S 1 } := hs0.trans (by rw [if_neg (fun z => hx0 (List.cons.inj z).1)])
        have hf : PyData.eqv (.list [.int x]) (.list [.int 0]) = false := by
          rw [PyData.eqv, PyData.eqvAll, PyData.eqv]
          rw [show (x == 0) = false from beq_eq_false_iff_ne.mpr hx0]
          rfl
        refine ifF hf ⟨_, rfl, _, _, rfl, rfl, ?_⟩
        refine ⟨_, rfl, a, _, _, _, rfl, rfl, SqT.of ha11, rfl, rfl, _, rfl, ifF (by decide +kernel) ?_⟩
        refine ⟨_, rfl, a, _, _, _, rfl, rfl, SqT.of ha11, rfl, rfl, _, rfl, ifF (by decide +kernel) ?_⟩
        refine ⟨_, rfl, a, _, _, _, rfl, rfl, SqT.of ha11, rfl, rfl, _, rfl, ifF (by decide +kernel) ?_⟩
        refine ⟨_, rfl, a, _, _, _, rfl, rfl, SqT.of ha11, rfl, rfl, _, rfl, ifF (by decide +kernel) ?_⟩
        have L13 : LI H11 c pl fr FL { S with at_ := S.at_ + 1, stack := lok S 1 } := ⟨L11.lst, L11.frl, L11.frs⟩
        obtain ⟨em, eh⟩ := stepI_mm hW hs
        have efl := L13.frs.len
        rw [List.length_reverse] at efl
        refine ⟨_, rfl, _, rfl, fr, _, rfl, .inl (SqL.of L13.frl), _, _, rfl, _, rfl, _, rfl, pl, _, rfl, .inl (SqL.of L13.lst), _, _, rfl, _, _, rfl, ?_⟩
        have e1 : (if (((FL).length : Nat) : Int) > S.mf then (((FL).length : Nat) : Int) else S.mf) = (({ S with at_ := S.at_ + 1, stack := lok S 1 } : MS)).mf := by
          rw [max2]
          exact Eq.trans (by rw [efl] <;> rfl) em.symm
        have e2 : (if ((((({ S with at_ := S.at_ + 1, stack := lok S 1 } : MS)).stack.map V.int).length : Nat) : Int) > S.ms then ((((({ S with at_ := S.at_ + 1, stack := lok S 1 } : MS)).stack.map V.int).length : Nat) : Int) else S.ms) = (({ S with at_ := S.at_ + 1, stack := lok S 1 } : MS)).ms := by
          rw [max2, List.length_map]
          exact eh.symm
        rw [e1, e2]
        rw [hs] at hrun2
        have e3 : (1 : Int) + i + 1 = 1 + ((i + 1 : Nat) : Int) := by omega
        simp only [e3] at hrun2
        exact ⟨_, _, _, _, _, ({ S with at_ := S.at_ + 1, stack := lok S 1 } : MS), pl, fr, FL, rfl, (x610.trans x11), L13, hW.step hok ((stepM_at hins).trans hs), hrun2⟩
    | push n =>
      have hs : stepI es S (.push n) = .go (putM S (S.at_ + 1) n) := rfl
      refine ⟨_, rfl, a, _, _, _, rfl, rfl, SqT.of ha10, rfl, rfl, _, rfl, ifF (by decide +kernel) ?_⟩
      refine ⟨_, rfl, a, _, _, _, rfl, rfl, SqT.of ha10, rfl, rfl, _, rfl, ifF (by decide +kernel) ?_⟩
      refine ⟨_, rfl, a, _, _, _, rfl, rfl, SqT.of ha10, rfl, rfl, _, rfl, ifF (by decide +kernel) ?_⟩
      refine ⟨_, rfl, a, _, _, _, rfl, rfl, SqT.of ha10, rfl, rfl, _, rfl, ifF (by decide +kernel) ?_⟩
      refine ⟨_, rfl, a, _, _, _, rfl, rfl, SqT.of ha10, rfl, rfl, _, rfl, ifF (by decide +kernel) (ifF rfl ?_)⟩
      refine ⟨_, rfl, _, _, rfl, rfl, ?_⟩
      refine ⟨_, rfl, a, _, _, _, rfl, rfl, SqT.of ha10, rfl, rfl, _, rfl, ifT (by decide +kernel) (ifT rfl ?_)⟩
      refine ⟨_, rfl, ?_⟩
      refine ⟨_, rfl, a, _, _, _, rfl, rfl, SqT.of ha10, rfl, rfl, _, rfl, ifT (by decide +kernel) ?_⟩
      refine ⟨_, rfl, a, _, _, _, rfl, rfl, SqT.of ha10, rfl, ?_⟩
      refine ⟨z1, ?_⟩
      intro pe hp_pe
      generalize hG_pe : upd _ pe _ = H11
      obtain ⟨x11, ge⟩ := nw hp_pe hG_pe
      refine ⟨pl, pe, _, _, rfl, rfl, x11 _ _ gl, ge, sz (by rw [List.length_map, List.length_singleton]; have := lok_len (S := S) (k := tkN es (.push n)); have h0 := hW.sn; show (lok S (tkN es (.push n))).length + 1 ≤ 1000000; omega), ?_⟩
      intro pf hp_pf
      generalize hG_pf : upd _ pf _ = H12
      obtain ⟨x12, gf⟩ := nw hp_pf hG_pf
      have L12 : LI H12 c pf fr FL (putM S (S.at_ + 1) n) := ⟨gf.trans (congrArg (fun l => some (HO.lst l)) ((List.map_append (f := V.int) (l₁ := lok S (tkN es (.push n))) (l₂ := [n])).symm.trans (congrArg (fun l : List Int => (l ++ [n]).map V.int) (lok0 (l := S.stack))))), x12 _ _ (x11 _ _ L10.frl), (L10.frs.ex x11).ex x12⟩
      have L13 : LI H12 c pf fr FL (putM S (S.at_ + 1) n) := L12
      obtain ⟨em, eh⟩ := stepI_mm hW hs
      have efl := L13.frs.len
      rw [List.length_reverse] at efl
      refine ⟨_, rfl, _, rfl, fr, _, rfl, .inl (SqL.of L13.frl), _, _, rfl, _, rfl, _, rfl, pf, _, rfl, .inl (SqL.of L13.lst), _, _, rfl, _, _, rfl, ?_⟩
      have e1 : (if (((FL).length : Nat) : Int) > S.mf then (((FL).length : Nat) : Int) else S.mf) = ((putM S (S.at_ + 1) n)).mf := by
        rw [max2]
        exact Eq.trans (by rw [efl] <;> rfl) em.symm
      have e2 : (if (((((putM S (S.at_ + 1) n)).stack.map V.int).length : Nat) : Int) > S.ms then (((((putM S (S.at_ + 1) n)).stack.map V.int).length : Nat) : Int) else S.ms) = ((putM S (S.at_ + 1) n)).ms := by
        rw [max2, List.length_map]
        exact eh.symm
      rw [e1, e2]
      rw [hs] at hrun2
      have e3 : (1 : Int) + i + 1 = 1 + ((i + 1 : Nat) : Int) := by omega
      simp only [e3] at hrun2
      exact ⟨_, _, _, _, _, (putM S (S.at_ + 1) n), pf, fr, FL, rfl, (x610.trans (x11.trans x12)), L13, hW.step hok ((stepM_at hins).trans hs), hrun2⟩
    | op k4 =>
      obtain ⟨x, y, hxy⟩ := upk2 (S := S) (by have h0 : ¬ S.stack.length < 2 := hlt; omega)
      have gu11 : H10 pu = some (.lst [.int x, .int y]) := gu10.trans (congrArg (fun l : List Int => some (HO.lst (l.map V.int))) hxy)
      have hd : Vok (upk S 2) := hW.st.drop
      rw [hxy] at hd
      have hx := hd x List.mem_cons_self
      have hy := hd y (List.mem_cons_of_mem _ List.mem_cons_self)
      cases k4 with
      | plus =>
        have hs : stepI es S (.op K4.plus) = .go (putM { S with stack := lok S 2 } (S.at_ + 1) (wk K4.plus x y)) := by simp only [stepI, hxy] <;> rfl
        refine ⟨_, rfl, a, _, _, _, rfl, rfl, SqT.of ha10, rfl, rfl, _, rfl, ifF (by decide +kernel) ?_⟩
        refine ⟨_, rfl, a, _, _, _, rfl, rfl, SqT.of ha10, rfl, rfl, _, rfl, ifF (by decide +kernel) ?_⟩
        refine ⟨_, rfl, a, _, _, _, rfl, rfl, SqT.of ha10, rfl, rfl, _, rfl, ifF (by decide +kernel) ?_⟩
        refine ⟨_, rfl, a, _, _, _, rfl, rfl, SqT.of ha10, rfl, rfl, _, rfl, ifF (by decide +kernel) ?_⟩
        refine ⟨_, rfl, a, _, _, _, rfl, rfl, SqT.of ha10, rfl, rfl, _, rfl, ifF (by decide +kernel) (ifF rfl ?_)⟩
        refine ⟨_, rfl, _, _, rfl, rfl, ?_⟩
        refine ⟨_, rfl, a, _, _, _, rfl, rfl, SqT.of ha10, rfl, rfl, _, rfl, ifF (by decide +kernel) ?_⟩
        refine ⟨_, rfl, a, _, _, _, rfl, rfl, SqT.of ha10, rfl, rfl, _, rfl, ifF (by decide +kernel) ?_⟩
        refine ⟨_, rfl, a, _, _, _, rfl, rfl, SqT.of ha10, rfl, rfl, _, rfl, ifF (by decide +kernel) ?_⟩
        refine ⟨_, rfl, a, _, _, _, rfl, rfl, SqT.of ha10, rfl, rfl, _, rfl, ifT (by decide +kernel) ?_⟩
        refine ⟨_, rfl, _, rfl, a, _, _, _, rfl, rfl, SqT.of ha10, rfl, _, rfl, pu, _, _, _, rfl, rfl, SqL.of gu11, rfl, _, rfl, pu, _, _, _, rfl, rfl, SqL.of gu11, rfl, K4.plus, x, y, rfl, hx.1, hx.2, hy.1, hy.2, ?_⟩
        refine ⟨z1, ?_⟩
        intro pe hp_pe
        generalize hG_pe : upd _ pe _ = H11
        obtain ⟨x11, ge⟩ := nw hp_pe hG_pe
        refine ⟨pl, pe, _, _, rfl, rfl, x11 _ _ gl, ge, sz (by rw [List.length_map, List.length_singleton]; have := lok_len (S := S) (k := tkN es (.op K4.plus)); have h0 := hW.sn; show (lok S (tkN es (.op K4.plus))).length + 1 ≤ 1000000; omega), ?_⟩
        intro pf hp_pf
        generalize hG_pf : upd _ pf _ = H12
        obtain ⟨x12, gf⟩ := nw hp_pf hG_pf
        have L12 : LI H12 c pf fr FL (putM { S with stack := lok S 2 } (S.at_ + 1) (wk K4.plus x y)) := ⟨gf.trans (congrArg (fun l => some (HO.lst l)) ((List.map_append (f := V.int) (l₁ := lok S (tkN es (.op K4.plus))) (l₂ := [(wk K4.plus x y)])).symm.trans (congrArg (fun l : List Int => (l ++ [(wk K4.plus x y)]).map V.int) rfl))), x12 _ _ (x11 _ _ L10.frl), (L10.frs.ex x11).ex x12⟩
        have L13 : LI H12 c pf fr FL (putM { S with stack := lok S 2 } (S.at_ + 1) (wk K4.plus x y)) := L12
        obtain ⟨em, eh⟩ := stepI_mm hW hs
        have efl := L13.frs.len
        rw [List.length_reverse] at efl
        refine ⟨_, rfl, _, rfl, fr, _, rfl, .inl (SqL.of L13.frl), _, _, rfl, _, rfl, _, rfl, pf, _, rfl, .inl (SqL.of L13.lst), _, _, rfl, _, _, rfl, ?_⟩
        have e1 : (if (((FL).length : Nat) : Int) > S.mf then (((FL).length : Nat) : Int) else S.mf) = ((putM { S with stack := lok S 2 } (S.at_ + 1) (wk K4.plus x y))).mf := by
          rw [max2]
          exact Eq.trans (by rw [efl] <;> rfl) em.symm
        have e2 : (if (((((putM { S with stack := lok S 2 } (S.at_ + 1) (wk K4.plus x y))).stack.map V.int).length : Nat) : Int) > S.ms then (((((putM { S with stack := lok S 2 } (S.at_ + 1) (wk K4.plus x y))).stack.map V.int).length : Nat) : Int) else S.ms) = ((putM { S with stack := lok S 2 } (S.at_ + 1) (wk K4.plus x y))).ms := by
          rw [max2, List.length_map]
          exact eh.symm
        rw [e1, e2]
        rw [hs] at hrun2
        have e3 : (1 : Int) + i + 1 = 1 + ((i + 1 : Nat) : Int) := by omega
        simp only [e3] at hrun2
        exact ⟨_, _, _, _, _, (putM { S with stack := lok S 2 } (S.at_ + 1) (wk K4.plus x y)), pf, fr, FL, rfl, (x610.trans (x11.trans x12)), L13, hW.step hok ((stepM_at hins).trans hs), hrun2⟩
      | minus =>
        have hs : stepI es S (.op K4.minus) = .go (putM { S with stack := lok S 2 } (S.at_ + 1) (wk K4.minus x y)) := by simp only [stepI, hxy] <;> rfl
        refine ⟨_, rfl, a, _, _, _, rfl, rfl, SqT.of ha10, rfl, rfl, _, rfl, ifF (by decide +kernel) ?_⟩
        refine ⟨_, rfl, a, _, _, _, rfl, rfl, SqT.of ha10, rfl, rfl, _, rfl, ifF (by decide +kernel) ?_⟩
        refine ⟨_, rfl, a, _, _, _, rfl, rfl, SqT.of ha10, rfl, rfl, _, rfl, ifF (by decide +kernel) ?_⟩
        refine ⟨_, rfl, a, _, _, _, rfl, rfl, SqT.of ha10, rfl, rfl, _, rfl, ifF (by decide +kernel) ?_⟩
        refine ⟨_, rfl, a, _, _, _, rfl, rfl, SqT.of ha10, rfl, rfl, _, rfl, ifF (by decide +kernel) (ifF rfl ?_)⟩
        refine ⟨_, rfl, _, _, rfl, rfl, ?_⟩
        refine ⟨_, rfl, a, _, _, _, rfl, rfl, SqT.of ha10, rfl, rfl, _, rfl, ifF (by decide +kernel) ?_⟩
        refine ⟨_, rfl, a, _, _, _, rfl, rfl, SqT.of ha10, rfl, rfl, _, rfl, ifF (by decide +kernel) ?_⟩
        refine ⟨_, rfl, a, _, _, _, rfl, rfl, SqT.of ha10, rfl, rfl, _, rfl, ifF (by decide +kernel) ?_⟩
        refine ⟨_, rfl, a, _, _, _, rfl, rfl, SqT.of ha10, rfl, rfl, _, rfl, ifT (by decide +kernel) ?_⟩
        refine ⟨_, rfl, _, rfl, a, _, _, _, rfl, rfl, SqT.of ha10, rfl, _, rfl, pu, _, _, _, rfl, rfl, SqL.of gu11, rfl, _, rfl, pu, _, _, _, rfl, rfl, SqL.of gu11, rfl, K4.minus, x, y, rfl, hx.1, hx.2, hy.1, hy.2, ?_⟩
        refine ⟨z1, ?_⟩
        intro pe hp_pe
        generalize hG_pe : upd _ pe _ = H11
        obtain ⟨x11, ge⟩ := nw hp_pe hG_pe
        refine ⟨pl, pe, _, _, rfl, rfl, x11 _ _ gl, ge, sz (by rw [List.length_map, List.length_singleton]; have := lok_len (S := S) (k := tkN es (.op K4.minus)); have h0 := hW.sn; show (lok S (tkN es (.op K4.minus))).length + 1 ≤ 1000000; omega), ?_⟩
        intro pf hp_pf
        generalize hG_pf : upd _ pf _ = H12
        obtain ⟨x12, gf⟩ := nw hp_pf hG_pf
        have L12 : LI H12 c pf fr FL (putM { S with stack := lok S 2 } (S.at_ + 1) (wk K4.minus x y)) := ⟨gf.trans (congrArg (fun l => some (HO.lst l)) ((List.map_append (f := V.int) (l₁ := lok S (tkN es (.op K4.minus))) (l₂ := [(wk K4.minus x y)])).symm.trans (congrArg (fun l : List Int => (l ++ [(wk K4.minus x y)]).map V.int) rfl))), x12 _ _ (x11 _ _ L10.frl), (L10.frs.ex x11).ex x12⟩
        have L13 : LI H12 c pf fr FL (putM { S with stack := lok S 2 } (S.at_ + 1) (wk K4.minus x y)) := L12
        obtain ⟨em, eh⟩ := stepI_mm hW hs
        have efl := L13.frs.len
        rw [List.length_reverse] at efl
        refine ⟨_, rfl, _, rfl, fr, _, rfl, .inl (SqL.of L13.frl), _, _, rfl, _, rfl, _, rfl, pf, _, rfl, .inl (SqL.of L13.lst), _, _, rfl, _, _, rfl, ?_⟩
        have e1 : (if (((FL).length : Nat) : Int) > S.mf then (((FL).length : Nat) : Int) else S.mf) = ((putM { S with stack := lok S 2 } (S.at_ + 1) (wk K4.minus x y))).mf := by
          rw [max2]
          exact Eq.trans (by rw [efl] <;> rfl) em.symm
        have e2 : (if (((((putM { S with stack := lok S 2 } (S.at_ + 1) (wk K4.minus x y))).stack.map V.int).length : Nat) : Int) > S.ms then (((((putM { S with stack := lok S 2 } (S.at_ + 1) (wk K4.minus x y))).stack.map V.int).length : Nat) : Int) else S.ms) = ((putM { S with stack := lok S 2 } (S.at_ + 1) (wk K4.minus x y))).ms := by
          rw [max2, List.length_map]
          exact eh.symm
        rw [e1, e2]
        rw [hs] at hrun2
        have e3 : (1 : Int) + i + 1 = 1 + ((i + 1 : Nat) : Int) := by omega
        simp only [e3] at hrun2
        exact ⟨_, _, _, _, _, (putM { S with stack := lok S 2 } (S.at_ + 1) (wk K4.minus x y)), pf, fr, FL, rfl, (x610.trans (x11.trans x12)), L13, hW.step hok ((stepM_at hins).trans hs), hrun2⟩
      | times =>
        have hs : stepI es S (.op K4.times) = .go (putM { S with stack := lok S 2 } (S.at_ + 1) (wk K4.times x y)) := by simp only [stepI, hxy] <;> rfl
        refine ⟨_, rfl, a, _, _, _, rfl, rfl, SqT.of ha10, rfl, rfl, _, rfl, ifF (by decide +kernel) ?_⟩
        refine ⟨_, rfl, a, _, _, _, rfl, rfl, SqT.of ha10, rfl, rfl, _, rfl, ifF (by decide +kernel) ?_⟩
        refine ⟨_, rfl, a, _, _, _, rfl, rfl, SqT.of ha10, rfl, rfl, _, rfl, ifF (by decide +kernel) ?_⟩
        refine ⟨_, rfl, a, _, _, _, rfl, rfl, SqT.of ha10, rfl, rfl, _, rfl, ifF (by decide +kernel) ?_⟩
        refine ⟨_, rfl, a, _, _, _, rfl, rfl, SqT.of ha10, rfl, rfl, _, rfl, ifF (by decide +kernel) (ifF rfl ?_)⟩
        refine ⟨_, rfl, _, _, rfl, rfl, ?_⟩
        refine ⟨_, rfl, a, _, _, _, rfl, rfl, SqT.of ha10, rfl, rfl, _, rfl, ifF (by decide +kernel) ?_⟩
        refine ⟨_, rfl, a, _, _, _, rfl, rfl, SqT.of ha10, rfl, rfl, _, rfl, ifF (by decide +kernel) ?_⟩
        refine ⟨_, rfl, a, _, _, _, rfl, rfl, SqT.of ha10, rfl, rfl, _, rfl, ifF (by decide +kernel) ?_⟩
        refine ⟨_, rfl, a, _, _, _, rfl, rfl, SqT.of ha10, rfl, rfl, _, rfl, ifT (by decide +kernel) ?_⟩
        refine ⟨_, rfl, _, rfl, a, _, _, _, rfl, rfl, SqT.of ha10, rfl, _, rfl, pu, _, _, _, rfl, rfl, SqL.of gu11, rfl, _, rfl, pu, _, _, _, rfl, rfl, SqL.of gu11, rfl, K4.times, x, y, rfl, hx.1, hx.2, hy.1, hy.2, ?_⟩
        refine ⟨z1, ?_⟩
        intro pe hp_pe
        generalize hG_pe : upd _ pe _ = H11
        obtain ⟨x11, ge⟩ := nw hp_pe hG_pe
        refine ⟨pl, pe, _, _, rfl, rfl, x11 _ _ gl, ge, sz (by rw [List.length_map, List.length_singleton]; have := lok_len (S := S) (k := tkN es (.op K4.times)); have h0 := hW.sn; show (lok S (tkN es (.op K4.times))).length + 1 ≤ 1000000; omega), ?_⟩
        intro pf hp_pf
        generalize hG_pf : upd _ pf _ = H12
        obtain ⟨x12, gf⟩ := nw hp_pf hG_pf
        have L12 : LI H12 c pf fr FL (putM { S with stack := lok S 2 } (S.at_ + 1) (wk K4.times x y)) := ⟨gf.trans (congrArg (fun l => some (HO.lst l)) ((List.map_append (f := V.int) (l₁ := lok S (tkN es (.op K4.times))) (l₂ := [(wk K4.times x y)])).symm.trans (congrArg (fun l : List Int => (l ++ [(wk K4.times x y)]).map V.int) rfl))), x12 _ _ (x11 _ _ L10.frl), (L10.frs.ex x11).ex x12⟩
        have L13 : LI H12 c pf fr FL (putM { S with stack := lok S 2 } (S.at_ + 1) (wk K4.times x y)) := L12
        obtain ⟨em, eh⟩ := stepI_mm hW hs
        have efl := L13.frs.len
        rw [List.length_reverse] at efl
        refine ⟨_, rfl, _, rfl, fr, _, rfl, .inl (SqL.of L13.frl), _, _, rfl, _, rfl, _, rfl, pf, _, rfl, .inl (SqL.of L13.lst), _, _, rfl, _, _, rfl, ?_⟩
        have e1 : (if (((FL).length : Nat) : Int) > S.mf then (((FL).length : Nat) : Int) else S.mf) = ((putM { S with stack := lok S 2 } (S.at_ + 1) (wk K4.times x y))).mf := by
          rw [max2]
          exact Eq.trans (by rw [efl] <;> rfl) em.symm
        have e2 : (if (((((putM { S with stack := lok S 2 } (S.at_ + 1) (wk K4.times x y))).stack.map V.int).length : Nat) : Int) > S.ms then (((((putM { S with stack := lok S 2 } (S.at_ + 1) (wk K4.times x y))).stack.map V.int).length : Nat) : Int) else S.ms) = ((putM { S with stack := lok S 2 } (S.at_ + 1) (wk K4.times x y))).ms := by
          rw [max2, List.length_map]
          exact eh.symm
        rw [e1, e2]
        rw [hs] at hrun2
        have e3 : (1 : Int) + i + 1 = 1 + ((i + 1 : Nat) : Int) := by omega
        simp only [e3] at hrun2
        exact ⟨_, _, _, _, _, (putM { S with stack := lok S 2 } (S.at_ + 1) (wk K4.times x y)), pf, fr, FL, rfl, (x610.trans (x11.trans x12)), L13, hW.step hok ((stepM_at hins).trans hs), hrun2⟩
      | less =>
        have eqn : (if decide (x < y) = true then (1 : Int) else 0) = opM .less x y := by
          show _ = if x < y then (1 : Int) else 0
          by_cases hh : x < y <;> simp [hh]
        have hs : stepI es S (.op .less) = .go (putM { S with stack := lok S 2 } (S.at_ + 1) (opM .less x y)) := by simp only [stepI, hxy]
        refine ⟨_, rfl, a, _, _, _, rfl, rfl, SqT.of ha10, rfl, rfl, _, rfl, ifF (by decide +kernel) ?_⟩
        refine ⟨_, rfl, a, _, _, _, rfl, rfl, SqT.of ha10, rfl, rfl, _, rfl, ifF (by decide +kernel) ?_⟩
        refine ⟨_, rfl, a, _, _, _, rfl, rfl, SqT.of ha10, rfl, rfl, _, rfl, ifF (by decide +kernel) ?_⟩
        refine ⟨_, rfl, a, _, _, _, rfl, rfl, SqT.of ha10, rfl, rfl, _, rfl, ifF (by decide +kernel) ?_⟩
        refine ⟨_, rfl, a, _, _, _, rfl, rfl, SqT.of ha10, rfl, rfl, _, rfl, ifF (by decide +kernel) (ifF rfl ?_)⟩
        refine ⟨_, rfl, _, _, rfl, rfl, ?_⟩
        refine ⟨_, rfl, a, _, _, _, rfl, rfl, SqT.of ha10, rfl, rfl, _, rfl, ifF (by decide +kernel) ?_⟩
        refine ⟨_, rfl, a, _, _, _, rfl, rfl, SqT.of ha10, rfl, rfl, _, rfl, ifF (by decide +kernel) ?_⟩
        refine ⟨_, rfl, a, _, _, _, rfl, rfl, SqT.of ha10, rfl, rfl, _, rfl, ifT (by decide +kernel) ?_⟩
        refine ⟨_, rfl, _, rfl, pu, _, _, _, rfl, rfl, SqL.of gu11, rfl, _, rfl, pu, _, _, _, rfl, rfl, SqL.of gu11, rfl, _, _, rfl, rfl, .inr ⟨_, rfl, ?_⟩⟩
        rw [eqn]
        refine ⟨z1, ?_⟩
        intro pe hp_pe
        generalize hG_pe : upd _ pe _ = H11
        obtain ⟨x11, ge⟩ := nw hp_pe hG_pe
        refine ⟨pl, pe, _, _, rfl, rfl, x11 _ _ gl, ge, sz (by rw [List.length_map, List.length_singleton]; have := lok_len (S := S) (k := tkN es (.op .less)); have h0 := hW.sn; show (lok S (tkN es (.op .less))).length + 1 ≤ 1000000; omega), ?_⟩
        intro pf hp_pf
        generalize hG_pf : upd _ pf _ = H12
        obtain ⟨x12, gf⟩ := nw hp_pf hG_pf
        have L12 : LI H12 c pf fr FL (putM { S with stack := lok S 2 } (S.at_ + 1) (opM .less x y)) := ⟨gf.trans (congrArg (fun l => some (HO.lst l)) ((List.map_append (f := V.int) (l₁ := lok S (tkN es (.op .less))) (l₂ := [(opM .less x y)])).symm.trans (congrArg (fun l : List Int => (l ++ [(opM .less x y)]).map V.int) rfl))), x12 _ _ (x11 _ _ L10.frl), (L10.frs.ex x11).ex x12⟩
        have L13 : LI H12 c pf fr FL (putM { S with stack := lok S 2 } (S.at_ + 1) (opM .less x y)) := L12
        obtain ⟨em, eh⟩ := stepI_mm hW hs
        have efl := L13.frs.len
        rw [List.length_reverse] at efl
        refine ⟨_, rfl, _, rfl, fr, _, rfl, .inl (SqL.of L13.frl), _, _, rfl, _, rfl, _, rfl, pf, _, rfl, .inl (SqL.of L13.lst), _, _, rfl, _, _, rfl, ?_⟩
        have e1 : (if (((FL).length : Nat) : Int) > S.mf then (((FL).length : Nat) : Int) else S.mf) = ((putM { S with stack := lok S 2 } (S.at_ + 1) (opM .less x y))).mf := by
          rw [max2]
          exact Eq.trans (by rw [efl] <;> rfl) em.symm
        have e2 : (if (((((putM { S with stack := lok S 2 } (S.at_ + 1) (opM .less x y))).stack.map V.int).length : Nat) : Int) > S.ms then (((((putM { S with stack := lok S 2 } (S.at_ + 1) (opM .less x y))).stack.map V.int).length : Nat) : Int) else S.ms) = ((putM { S with stack := lok S 2 } (S.at_ + 1) (opM .less x y))).ms := by
          rw [max2, List.length_map]
          exact eh.symm
        rw [e1, e2]
        rw [hs] at hrun2
        have e3 : (1 : Int) + i + 1 = 1 + ((i + 1 : Nat) : Int) := by omega
        simp only [e3] at hrun2
        exact ⟨_, _, _, _, _, (putM { S with stack := lok S 2 } (S.at_ + 1) (opM .less x y)), pf, fr, FL, rfl, (x610.trans (x11.trans x12)), L13, hW.step hok ((stepM_at hins).trans hs), hrun2⟩
  · rintro _ H6 ⟨v10, v11, v12, v13, v14, S, st, fr, FL, rfl, x6, L, hW, hrun⟩
    refine qN ?_ _ x6
    rw [hrun, show F.toNat - (F + 1 - 1).toNat = 0 by omega]
    rfl
end

end M10
set_option Elab.async false
set_option linter.all false
set_option maxRecDepth 100000
set_option maxHeartbeats 4000000
namespace M10
open PySem PySem.Spec PyProof.Rows L2 Evl
/-! ### heights -/
def ndT (es : List (Int × Int)) : Ins → Int
  | .op _ => 2
  | .zero _ => 1
  | .back => 1
  | .call j => ((es[j.toNat]?).map (·.2)).getD 0
  | .tail j => ((es[j.toNat]?).map (·.2)).getD 0
  | _ => 0
def ndP : Ins → Int
  | .zero _ => 0
  | .back => 0
  | .jump _ => 0
  | .tail _ => 0
  | _ => 1
def nxt (i : Ins) (at_ : Int) : List Int := match i with
  | .back => []
  | .tail _ => []
  | .jump a => [a]
  | .zero a => [at_ + 1, a]
  | _ => [at_ + 1]
def sndT (es : List (Int × Int)) (l h : Int) : Ins → Bool
  | .arg k => decide (k < l)
  | .back => decide (ndT es .back = h)
  | .tail j => decide (ndT es (.tail j) = h)
  | _ => true
def snd (es : List (Int × Int)) (i : Ins) (l h : Int) : Bool := if ndT es i > h then false else sndT es l h i
def spNeeds : Sp := fun vs H Q _ => ∃ (a e : Addr) (exs : List V) (es : List (Int × Int)) (i : Ins) (lim : Int), vs = [.ref a, .ref e] ∧ H a = some (.tup i.v) ∧ H e = some (.tup exs) ∧ EntsAt H exs es ∧ i.ok es.length lim ∧
  ∀ p H', Ex H H' → H' p = some (.tup [.int (ndT es i), .int (ndP i)]) → Q (.ref p) H'
def spNexts : Sp := fun vs H Q _ => ∃ (a : Addr) (i : Ins) (n : Int), vs = [.ref a, .int n] ∧ H a = some (.tup i.v) ∧ ∀ p H', Ex H H' → H' p = some (.lst ((nxt i n).map V.int)) → Q (.ref p) H'
section
variable {P : Program} {w : World} {K : PySem.W.Frag} {mg : Str → Option Value} {base : Heap}
theorem sc_needs : FnScope ["one", "entries"] ["one", "entries"] (defScope s_needs) := ⟨rfl, rfl, rfl, by decide +kernel, rfl, by decide +kernel, by decide +kernel⟩
theorem ok_needs (D : Dd K mg "needs" s_needs ["one", "entries"]) (T : Tb K mg) : Dn P w K mg base L2.CX0 1 "needs" spNeeds := by
  refine D.ok sc_needs (fun vs H Q E h => by obtain ⟨a, e, exs, es, i, lim, rfl, _⟩ := h; rfl) (fun f cdv A outer s H vs Q E hr h => ?_)
  obtain ⟨a, e, exs, es, i, lim, rfl, ha, he, hE, hok, q⟩ := h
  refine ⟨_, (pss_cons (ps_if (pt_cmpR op_in_seq (pe_ix ix_tup (pv 0) pe_int (fun _ _ => rfl)) (pe_lst (pa_cons pe_str (pa_cons pe_str pa_nil))) rfl) (pss_one (ps_ret (pe_tup (pa_cons pe_int (pa_cons pe_int pa_nil))))) pss_nil)
    (pss_cons (ps_if (pt_cmpR op_in_seq (pe_ix ix_tup (pv 0) pe_int (fun _ _ => rfl)) (pe_lst (pa_cons pe_str (pa_cons pe_str pa_nil))) rfl) (pss_one (ps_ret (pe_tup (pa_cons pe_int (pa_cons pe_int pa_nil))))) pss_nil)
    (pss_cons (ps_if (pt_cmpR op_eq (pe_ix ix_tup (pv 0) pe_int (fun _ _ => rfl)) pe_str (nomark _)) (pss_one (ps_ret (pe_tup (pa_cons pe_int (pa_cons pe_int pa_nil))))) pss_nil)
    (pss_cons (ps_if (pt_cmpR op_in_seq (pe_ix ix_tup (pv 0) pe_int (fun _ _ => rfl)) (pe_lst (pa_cons pe_str (pa_cons pe_str pa_nil))) rfl) (pss_one (ps_ret (pe_tup (pa_cons (pe_ix ix_tup (pe_ix ix_tup (pv 1) (pe_ix ix_tup (pv 0) pe_int (fun _ _ => rfl)) (fun _ _ => rfl)) pe_int (fun _ _ => rfl)) (pa_cons (pe_ifExp (pt_cmpR op_eq (pe_ix ix_tup (pv 0) pe_int (fun _ _ => rfl)) pe_str (nomark _)) pe_int pe_int) pa_nil))))) pss_nil)
    (pss_one (ps_ret (pe_tup (pa_cons pe_int (pa_cons pe_int pa_nil))))))))), ?_⟩
  cases i with
  | push n =>
    refine ⟨_, rfl, a, _, _, _, rfl, rfl, SqT.of ha, rfl, z2, ?_⟩
    intro p1 hp_p1
    generalize hG_p1 : upd _ p1 _ = H1
    obtain ⟨x1, g1⟩ := nw hp_p1 hG_p1
    refine ⟨p1, _, rfl, .inl (SqL.of g1), rfl, by simp [flatV], _, rfl, ifT (by decide +kernel) ?_⟩
    refine ⟨z2, ?_⟩
    intro r hp_r
    generalize hG_r : upd _ r _ = H9
    obtain ⟨x9, g9⟩ := nw hp_r hG_r
    exact q r H9 (x1.trans x9) g9
  | arg n =>
    refine ⟨_, rfl, a, _, _, _, rfl, rfl, SqT.of ha, rfl, z2, ?_⟩
    intro p1 hp_p1
    generalize hG_p1 : upd _ p1 _ = H1
    obtain ⟨x1, g1⟩ := nw hp_p1 hG_p1
    refine ⟨p1, _, rfl, .inl (SqL.of g1), rfl, by simp [flatV], _, rfl, ifT (by decide +kernel) ?_⟩
    refine ⟨z2, ?_⟩
    intro r hp_r
    generalize hG_r : upd _ r _ = H9
    obtain ⟨x9, g9⟩ := nw hp_r hG_r
    exact q r H9 (x1.trans x9) g9
  | zero n =>
    refine ⟨_, rfl, a, _, _, _, rfl, rfl, SqT.of ha, rfl, z2, ?_⟩
    intro p1 hp_p1
    generalize hG_p1 : upd _ p1 _ = H1
    obtain ⟨x1, g1⟩ := nw hp_p1 hG_p1
    refine ⟨p1, _, rfl, .inl (SqL.of g1), rfl, by simp [flatV], _, rfl, ifF (by decide +kernel) ?_⟩
    refine ⟨_, rfl, a, _, _, _, rfl, rfl, SqT.of (x1 _ _ ha), rfl, z2, ?_⟩
    intro p2 hp_p2
    generalize hG_p2 : upd _ p2 _ = H2
    obtain ⟨x2, g2⟩ := nw hp_p2 hG_p2
    refine ⟨p2, _, rfl, .inl (SqL.of g2), rfl, by simp [flatV], _, rfl, ifT (by decide +kernel) ?_⟩
    refine ⟨z2, ?_⟩
    intro r hp_r
    generalize hG_r : upd _ r _ = H9
    obtain ⟨x9, g9⟩ := nw hp_r hG_r
    exact q r H9 (x1.trans (x2.trans x9)) g9
  | back =>
    refine ⟨_, rfl, a, _, _, _, rfl, rfl, SqT.of ha, rfl, z2, ?_⟩
    intro p1 hp_p1
    generalize hG_p1 : upd _ p1 _ = H1
    obtain ⟨x1, g1⟩ := nw hp_p1 hG_p1
    refine ⟨p1, _, rfl, .inl (SqL.of g1), rfl, by simp [flatV], _, rfl, ifF (by decide +kernel) ?_⟩
    refine ⟨_, rfl, a, _, _, _, rfl, rfl, SqT.of (x1 _ _ ha), rfl, z2, ?_⟩
    intro p2 hp_p2
    generalize hG_p2 : upd _ p2 _ = H2
    obtain ⟨x2, g2⟩ := nw hp_p2 hG_p2
    refine ⟨p2, _, rfl, .inl (SqL.of g2), rfl, by simp [flatV], _, rfl, ifT (by decide +kernel) ?_⟩
    refine ⟨z2, ?_⟩
    intro r hp_r
    generalize hG_r : upd _ r _ = H9
    obtain ⟨x9, g9⟩ := nw hp_r hG_r
    exact q r H9 (x1.trans (x2.trans x9)) g9
  | jump n =>
    refine ⟨_, rfl, a, _, _, _, rfl, rfl, SqT.of ha, rfl, z2, ?_⟩
    intro p1 hp_p1
    generalize hG_p1 : upd _ p1 _ = H1
    obtain ⟨x1, g1⟩ := nw hp_p1 hG_p1
    refine ⟨p1, _, rfl, .inl (SqL.of g1), rfl, by simp [flatV], _, rfl, ifF (by decide +kernel) ?_⟩
    refine ⟨_, rfl, a, _, _, _, rfl, rfl, SqT.of (x1 _ _ ha), rfl, z2, ?_⟩
    intro p2 hp_p2
    generalize hG_p2 : upd _ p2 _ = H2
    obtain ⟨x2, g2⟩ := nw hp_p2 hG_p2
    refine ⟨p2, _, rfl, .inl (SqL.of g2), rfl, by simp [flatV], _, rfl, ifF (by decide +kernel) ?_⟩
    refine ⟨_, rfl, a, _, _, _, rfl, rfl, SqT.of (x2 _ _ (x1 _ _ ha)), rfl, rfl, _, rfl, ifT (by decide +kernel) ?_⟩
    refine ⟨z2, ?_⟩
    intro r hp_r
    generalize hG_r : upd _ r _ = H9
    obtain ⟨x9, g9⟩ := nw hp_r hG_r
    exact q r H9 (x1.trans (x2.trans x9)) g9
  | op k4 =>
    refine ⟨_, rfl, a, _, _, _, rfl, rfl, SqT.of ha, rfl, z2, ?_⟩
    intro p1 hp_p1
    generalize hG_p1 : upd _ p1 _ = H1
    obtain ⟨x1, g1⟩ := nw hp_p1 hG_p1
    refine ⟨p1, _, rfl, .inl (SqL.of g1), rfl, by simp [flatV], _, rfl, ifF (by cases k4 <;> decide +kernel) ?_⟩
    refine ⟨_, rfl, a, _, _, _, rfl, rfl, SqT.of (x1 _ _ ha), rfl, z2, ?_⟩
    intro p2 hp_p2
    generalize hG_p2 : upd _ p2 _ = H2
    obtain ⟨x2, g2⟩ := nw hp_p2 hG_p2
    refine ⟨p2, _, rfl, .inl (SqL.of g2), rfl, by simp [flatV], _, rfl, ifF (by cases k4 <;> decide +kernel) ?_⟩
    refine ⟨_, rfl, a, _, _, _, rfl, rfl, SqT.of (x2 _ _ (x1 _ _ ha)), rfl, rfl, _, rfl, ifF (by cases k4 <;> decide +kernel) ?_⟩
    refine ⟨_, rfl, a, _, _, _, rfl, rfl, SqT.of (x2 _ _ (x1 _ _ ha)), rfl, z2, ?_⟩
    intro p3 hp_p3
    generalize hG_p3 : upd _ p3 _ = H3
    obtain ⟨x3, g3⟩ := nw hp_p3 hG_p3
    refine ⟨p3, _, rfl, .inl (SqL.of g3), rfl, by simp [flatV], _, rfl, ifF (by cases k4 <;> decide +kernel) ?_⟩
    refine ⟨z2, ?_⟩
    intro r hp_r
    generalize hG_r : upd _ r _ = H9
    obtain ⟨x9, g9⟩ := nw hp_r hG_r
    exact q r H9 (x1.trans (x2.trans (x3.trans x9))) g9
  | call j =>
    obtain ⟨en, hen⟩ : ∃ en, es[j.toNat]? = some en := ⟨_, List.getElem?_eq_getElem (by have := hok.1; have := hok.2; omega)⟩
    have hT : ndT es (.call j) = en.2 := by simp [ndT, hen]
    refine ⟨_, rfl, a, _, _, _, rfl, rfl, SqT.of ha, rfl, z2, ?_⟩
    intro p1 hp_p1
    generalize hG_p1 : upd _ p1 _ = H1
    obtain ⟨x1, g1⟩ := nw hp_p1 hG_p1
    refine ⟨p1, _, rfl, .inl (SqL.of g1), rfl, by simp [flatV], _, rfl, ifF (by decide +kernel) ?_⟩
    refine ⟨_, rfl, a, _, _, _, rfl, rfl, SqT.of (x1 _ _ ha), rfl, z2, ?_⟩
    intro p2 hp_p2
    generalize hG_p2 : upd _ p2 _ = H2
    obtain ⟨x2, g2⟩ := nw hp_p2 hG_p2
    refine ⟨p2, _, rfl, .inl (SqL.of g2), rfl, by simp [flatV], _, rfl, ifF (by decide +kernel) ?_⟩
    refine ⟨_, rfl, a, _, _, _, rfl, rfl, SqT.of (x2 _ _ (x1 _ _ ha)), rfl, rfl, _, rfl, ifF (by decide +kernel) ?_⟩
    refine ⟨_, rfl, a, _, _, _, rfl, rfl, SqT.of (x2 _ _ (x1 _ _ ha)), rfl, z2, ?_⟩
    intro p3 hp_p3
    generalize hG_p3 : upd _ p3 _ = H3
    obtain ⟨x3, g3⟩ := nw hp_p3 hG_p3
    refine ⟨p3, _, rfl, .inl (SqL.of g3), rfl, by simp [flatV], _, rfl, ifT (by decide +kernel) ?_⟩
    have x13 := x1.trans (x2.trans x3)
    obtain ⟨ea, hea1, hea2⟩ := (hE.mono (Tx.of x13)).get hen
    have hjj : ((j.toNat : Nat) : Int) = j := by have := hok.1; omega
    have hea3 : atI exs j = some (.ref ea) := by
      have := atI_nat hea1
      rw [hjj] at this
      exact this
    refine ⟨_, rfl, _, rfl, a, _, _, _, rfl, rfl, SqT.of (x13 _ _ ha), rfl, e, _, _, _, rfl, rfl, SqT.of (x13 _ _ he), hea3, ea, _, _, _, rfl, rfl, SqT.of hea2, rfl, ?_⟩
    refine ⟨_, rfl, a, _, _, _, rfl, rfl, SqT.of (x13 _ _ ha), rfl, rfl, _, rfl, ifT (by decide +kernel) ?_⟩
    refine ⟨z2, ?_⟩
    intro r hp_r
    generalize hG_r : upd _ r _ = H9
    obtain ⟨x9, g9⟩ := nw hp_r hG_r
    exact q r H9 (x13.trans x9) (by rw [hT]; exact g9)
  | tail j =>
    obtain ⟨en, hen⟩ : ∃ en, es[j.toNat]? = some en := ⟨_, List.getElem?_eq_getElem (by have := hok.1; have := hok.2; omega)⟩
    have hT : ndT es (.tail j) = en.2 := by simp [ndT, hen]
    refine ⟨_, rfl, a, _, _, _, rfl, rfl, SqT.of ha, rfl, z2, ?_⟩
    intro p1 hp_p1
    generalize hG_p1 : upd _ p1 _ = H1
    obtain ⟨x1, g1⟩ := nw hp_p1 hG_p1
    refine ⟨p1, _, rfl, .inl (SqL.of g1), rfl, by simp [flatV], _, rfl, ifF (by decide +kernel) ?_⟩
    refine ⟨_, rfl, a, _, _, _, rfl, rfl, SqT.of (x1 _ _ ha), rfl, z2, ?_⟩
    intro p2 hp_p2
    generalize hG_p2 : upd _ p2 _ = H2
    obtain ⟨x2, g2⟩ := nw hp_p2 hG_p2
    refine ⟨p2, _, rfl, .inl (SqL.of g2), rfl, by simp [flatV], _, rfl, ifF (by decide +kernel) ?_⟩
    refine ⟨_, rfl, a, _, _, _, rfl, rfl, SqT.of (x2 _ _ (x1 _ _ ha)), rfl, rfl, _, rfl, ifF (by decide +kernel) ?_⟩
    refine ⟨_, rfl, a, _, _, _, rfl, rfl, SqT.of (x2 _ _ (x1 _ _ ha)), rfl, z2, ?_⟩
    intro p3 hp_p3
    generalize hG_p3 : upd _ p3 _ = H3
    obtain ⟨x3, g3⟩ := nw hp_p3 hG_p3
    refine ⟨p3, _, rfl, .inl (SqL.of g3), rfl, by simp [flatV], _, rfl, ifT (by decide +kernel) ?_⟩
    have x13 := x1.trans (x2.trans x3)
    obtain ⟨ea, hea1, hea2⟩ := (hE.mono (Tx.of x13)).get hen
    have hjj : ((j.toNat : Nat) : Int) = j := by have := hok.1; omega
    have hea3 : atI exs j = some (.ref ea) := by
      have := atI_nat hea1
      rw [hjj] at this
      exact this
    refine ⟨_, rfl, _, rfl, a, _, _, _, rfl, rfl, SqT.of (x13 _ _ ha), rfl, e, _, _, _, rfl, rfl, SqT.of (x13 _ _ he), hea3, ea, _, _, _, rfl, rfl, SqT.of hea2, rfl, ?_⟩
    refine ⟨_, rfl, a, _, _, _, rfl, rfl, SqT.of (x13 _ _ ha), rfl, rfl, _, rfl, ifF (by decide +kernel) ?_⟩
    refine ⟨z2, ?_⟩
    intro r hp_r
    generalize hG_r : upd _ r _ = H9
    obtain ⟨x9, g9⟩ := nw hp_r hG_r
    exact q r H9 (x13.trans x9) (by rw [hT]; exact g9)
end

end M10
set_option Elab.async false
set_option linter.all false
set_option maxRecDepth 100000
set_option maxHeartbeats 4000000
namespace M10
open PySem PySem.Spec PyProof.Rows L2 Evl
def spSound : Sp := fun vs H Q _ => ∃ (c e s : Addr) (exs ixs : List V) (es : List (Int × Int)) (is : List Ins) (n l h : Int) (i : Ins), vs = [.ref c, .int n, .int l, .int h] ∧ CodeAt H c e s exs ixs es is ∧ CodeOk es is ∧ 0 ≤ n ∧ is[n.toNat]? = some i ∧
  ∀ H', Ex H H' → Q (.bl (snd es i l h)) H'
theorem tagBT {i : Ins} (h1 : i ≠ .back) (h2 : ∀ j, i ≠ .tail j) : inV (.str i.tag) [.str "back", .str "tail"] = false := by
  cases i with
  | back => exact absurd rfl h1
  | tail j => exact absurd rfl (h2 j)
  | op k => cases k <;> decide +kernel
  | _ => simp only [Ins.tag] <;> decide +kernel
theorem CodeAt.one {H : Hp} {c e s : Addr} {exs ixs : List V} {es : List (Int × Int)} {is : List Ins} (h : CodeAt H c e s exs ixs es is) {n : Int} {i : Ins} (h0 : 0 ≤ n) (hi : is[n.toNat]? = some i) : ∃ a, atI ixs n = some (.ref a) ∧ H a = some (.tup i.v) := by
  have hl := h.is.length
  have h1 : n.toNat < is.length := (List.getElem?_eq_some_iff.mp hi).1
  obtain ⟨y, hy⟩ : ∃ y, ixs[n.toNat]? = some y := ⟨_, List.getElem?_eq_getElem (by omega)⟩
  obtain ⟨i', hi', a, rfl, ha⟩ := Paired.at_ h.is hy
  rw [hi] at hi'
  cases hi'
  refine ⟨a, ?_, ha⟩
  have hh : ((n.toNat : Nat) : Int) = n := by omega
  rw [← hh]
  exact atI_nat hy
section
variable {P : Program} {w : World} {K : PySem.W.Frag} {mg : Str → Option Value} {base : Heap}
theorem sc_nexts : FnScope ["one", "at"] ["one", "at"] (defScope s_nexts) := ⟨rfl, rfl, rfl, by decide +kernel, rfl, by decide +kernel, by decide +kernel⟩
theorem ok_nexts (D : Dd K mg "nexts" s_nexts ["one", "at"]) (T : Tb K mg) : Dn P w K mg base L2.CX0 1 "nexts" spNexts := by
  refine D.ok sc_nexts (fun vs H Q E h => by obtain ⟨a, i, n, rfl, _⟩ := h; rfl) (fun f cdv A outer s H vs Q E hr h => ?_)
  obtain ⟨a, i, n, rfl, ha, q⟩ := h
  refine ⟨_, (pss_cons (ps_if (pt_cmpR op_in_seq (pe_ix ix_tup (pv 0) pe_int (fun _ _ => rfl)) (pe_lst (pa_cons pe_str (pa_cons pe_str pa_nil))) rfl) (pss_one (ps_ret (pe_lst pa_nil))) pss_nil)
    (pss_cons (ps_if (pt_cmpR op_eq (pe_ix ix_tup (pv 0) pe_int (fun _ _ => rfl)) pe_str (nomark _)) (pss_one (ps_ret (pe_lst (pa_cons (pe_ix ix_tup (pv 0) pe_int (fun _ _ => rfl)) pa_nil)))) pss_nil)
    (pss_one (ps_ret (pe_ifExp (pt_cmpR op_eq (pe_ix ix_tup (pv 0) pe_int (fun _ _ => rfl)) pe_str (nomark _)) (pe_lst (pa_cons (pe_op op_add (pv 1) pe_int) (pa_cons (pe_ix ix_tup (pv 0) pe_int (fun _ _ => rfl)) pa_nil))) (pe_lst (pa_cons (pe_op op_add (pv 1) pe_int) pa_nil))))))), ?_⟩
  cases i with
  | back =>
    refine ⟨_, rfl, a, _, _, _, rfl, rfl, SqT.of ha, rfl, z2, ?_⟩
    intro p1 hp_p1
    generalize hG_p1 : upd _ p1 _ = H1
    obtain ⟨x1, g1⟩ := nw hp_p1 hG_p1
    refine ⟨p1, _, rfl, .inl (SqL.of g1), rfl, by simp [flatV], _, rfl, ifT (by decide +kernel) ?_⟩
    refine ⟨z0, ?_⟩
    intro r hp_r
    generalize hG_r : upd _ r _ = H9
    obtain ⟨x9, g9⟩ := nw hp_r hG_r
    exact q r H9 (x1.trans x9) g9
  | tail j =>
    refine ⟨_, rfl, a, _, _, _, rfl, rfl, SqT.of ha, rfl, z2, ?_⟩
    intro p1 hp_p1
    generalize hG_p1 : upd _ p1 _ = H1
    obtain ⟨x1, g1⟩ := nw hp_p1 hG_p1
    refine ⟨p1, _, rfl, .inl (SqL.of g1), rfl, by simp [flatV], _, rfl, ifT (by decide +kernel) ?_⟩
    refine ⟨z0, ?_⟩
    intro r hp_r
    generalize hG_r : upd _ r _ = H9
    obtain ⟨x9, g9⟩ := nw hp_r hG_r
    exact q r H9 (x1.trans x9) g9
  | jump m =>
    refine ⟨_, rfl, a, _, _, _, rfl, rfl, SqT.of ha, rfl, z2, ?_⟩
    intro p1 hp_p1
    generalize hG_p1 : upd _ p1 _ = H1
    obtain ⟨x1, g1⟩ := nw hp_p1 hG_p1
    refine ⟨p1, _, rfl, .inl (SqL.of g1), rfl, by simp [flatV], _, rfl, ifF (by decide +kernel) ?_⟩
    refine ⟨_, rfl, a, _, _, _, rfl, rfl, SqT.of (x1 _ _ ha), rfl, rfl, _, rfl, ifT (by decide +kernel) ?_⟩
    refine ⟨_, rfl, a, _, _, _, rfl, rfl, SqT.of (x1 _ _ ha), rfl, z1, ?_⟩
    intro r hp_r
    generalize hG_r : upd _ r _ = H9
    obtain ⟨x9, g9⟩ := nw hp_r hG_r
    exact q r H9 (x1.trans x9) g9
  | zero m =>
    refine ⟨_, rfl, a, _, _, _, rfl, rfl, SqT.of ha, rfl, z2, ?_⟩
    intro p1 hp_p1
    generalize hG_p1 : upd _ p1 _ = H1
    obtain ⟨x1, g1⟩ := nw hp_p1 hG_p1
    refine ⟨p1, _, rfl, .inl (SqL.of g1), rfl, by simp [flatV], _, rfl, ifF (by decide +kernel) ?_⟩
    refine ⟨_, rfl, a, _, _, _, rfl, rfl, SqT.of (x1 _ _ ha), rfl, rfl, _, rfl, ifF (by decide +kernel) ?_⟩
    refine ⟨_, rfl, a, _, _, _, rfl, rfl, SqT.of (x1 _ _ ha), rfl, rfl, _, rfl, ifT (by decide +kernel) ?_⟩
    refine ⟨_, rfl, _, _, rfl, rfl, _, rfl, a, _, _, _, rfl, rfl, SqT.of (x1 _ _ ha), rfl, z2, ?_⟩
    intro r hp_r
    generalize hG_r : upd _ r _ = H9
    obtain ⟨x9, g9⟩ := nw hp_r hG_r
    exact q r H9 (x1.trans x9) g9
  | push m =>
    refine ⟨_, rfl, a, _, _, _, rfl, rfl, SqT.of ha, rfl, z2, ?_⟩
    intro p1 hp_p1
    generalize hG_p1 : upd _ p1 _ = H1
    obtain ⟨x1, g1⟩ := nw hp_p1 hG_p1
    refine ⟨p1, _, rfl, .inl (SqL.of g1), rfl, by simp [flatV], _, rfl, ifF (by decide +kernel) ?_⟩
    refine ⟨_, rfl, a, _, _, _, rfl, rfl, SqT.of (x1 _ _ ha), rfl, rfl, _, rfl, ifF (by decide +kernel) ?_⟩
    refine ⟨_, rfl, a, _, _, _, rfl, rfl, SqT.of (x1 _ _ ha), rfl, rfl, _, rfl, ifF (by decide +kernel) ?_⟩
    refine ⟨_, rfl, _, _, rfl, rfl, z1, ?_⟩
    intro r hp_r
    generalize hG_r : upd _ r _ = H9
    obtain ⟨x9, g9⟩ := nw hp_r hG_r
    exact q r H9 (x1.trans x9) g9
  | arg m =>
    refine ⟨_, rfl, a, _, _, _, rfl, rfl, SqT.of ha, rfl, z2, ?_⟩
    intro p1 hp_p1
    generalize hG_p1 : upd _ p1 _ = H1
    obtain ⟨x1, g1⟩ := nw hp_p1 hG_p1
    refine ⟨p1, _, rfl, .inl (SqL.of g1), rfl, by simp [flatV], _, rfl, ifF (by decide +kernel) ?_⟩
    refine ⟨_, rfl, a, _, _, _, rfl, rfl, SqT.of (x1 _ _ ha), rfl, rfl, _, rfl, ifF (by decide +kernel) ?_⟩
    refine ⟨_, rfl, a, _, _, _, rfl, rfl, SqT.of (x1 _ _ ha), rfl, rfl, _, rfl, ifF (by decide +kernel) ?_⟩
    refine ⟨_, rfl, _, _, rfl, rfl, z1, ?_⟩
    intro r hp_r
    generalize hG_r : upd _ r _ = H9
    obtain ⟨x9, g9⟩ := nw hp_r hG_r
    exact q r H9 (x1.trans x9) g9
  | call m =>
    refine ⟨_, rfl, a, _, _, _, rfl, rfl, SqT.of ha, rfl, z2, ?_⟩
    intro p1 hp_p1
    generalize hG_p1 : upd _ p1 _ = H1
    obtain ⟨x1, g1⟩ := nw hp_p1 hG_p1
    refine ⟨p1, _, rfl, .inl (SqL.of g1), rfl, by simp [flatV], _, rfl, ifF (by decide +kernel) ?_⟩
    refine ⟨_, rfl, a, _, _, _, rfl, rfl, SqT.of (x1 _ _ ha), rfl, rfl, _, rfl, ifF (by decide +kernel) ?_⟩
    refine ⟨_, rfl, a, _, _, _, rfl, rfl, SqT.of (x1 _ _ ha), rfl, rfl, _, rfl, ifF (by decide +kernel) ?_⟩
    refine ⟨_, rfl, _, _, rfl, rfl, z1, ?_⟩
    intro r hp_r
    generalize hG_r : upd _ r _ = H9
    obtain ⟨x9, g9⟩ := nw hp_r hG_r
    exact q r H9 (x1.trans x9) g9
  | op k4 =>
    refine ⟨_, rfl, a, _, _, _, rfl, rfl, SqT.of ha, rfl, z2, ?_⟩
    intro p1 hp_p1
    generalize hG_p1 : upd _ p1 _ = H1
    obtain ⟨x1, g1⟩ := nw hp_p1 hG_p1
    refine ⟨p1, _, rfl, .inl (SqL.of g1), rfl, by simp [flatV], _, rfl, ifF (by cases k4 <;> decide +kernel) ?_⟩
    refine ⟨_, rfl, a, _, _, _, rfl, rfl, SqT.of (x1 _ _ ha), rfl, rfl, _, rfl, ifF (by cases k4 <;> decide +kernel) ?_⟩
    refine ⟨_, rfl, a, _, _, _, rfl, rfl, SqT.of (x1 _ _ ha), rfl, rfl, _, rfl, ifF (by cases k4 <;> decide +kernel) ?_⟩
    refine ⟨_, rfl, _, _, rfl, rfl, z1, ?_⟩
    intro r hp_r
    generalize hG_r : upd _ r _ = H9
    obtain ⟨x9, g9⟩ := nw hp_r hG_r
    exact q r H9 (x1.trans x9) g9
theorem sc_is_sound : FnScope ["code", "at", "lates", "height", "one", "takes"] ["code", "at", "lates", "height"] (defScope s_is_sound) := ⟨rfl, rfl, rfl, by decide +kernel, rfl, by decide +kernel, by decide +kernel⟩
theorem ok_is_sound (D : Dd K mg "is_sound" s_is_sound ["code", "at", "lates", "height"]) (T : Tb K mg) (c_needs : Dn P w K mg base L2.CX0 1 "needs" spNeeds) : Dn P w K mg base L2.CX0 2 "is_sound" spSound := by
  refine D.ok sc_is_sound (fun vs H Q E h => by obtain ⟨c, e, s, exs, ixs, es, is, n, l, h, i, rfl, _⟩ := h; rfl) (fun f cdv A outer s H vs Q E hr h => ?_)
  obtain ⟨c, e, s, exs, ixs, es, is, n, l, h, i, rfl, hC, hok, hn, hi, q⟩ := h
  refine ⟨_, (pss_cons (sset 4 sc_is_sound.nd (pe_ix ix_tup (pe_ix ix_tup (pv 0) pe_int (fun _ _ => rfl)) (pv 1) (fun _ _ => rfl)))
    (pss_cons (sset 5 sc_is_sound.nd (pe_ix ix_tup (pe_c0 c_needs hr (pa_cons (pv 4) (pa_cons (pe_ix ix_tup (pv 0) pe_int (fun _ _ => rfl)) pa_nil))) pe_int (fun _ _ => rfl)))
    (pss_cons (ps_if (PW.pt (pw_or (pt_cmpR op_gt (pv 5) (pv 3) (nomark _)) (pw_or1 (PW.pt (pw_and (pt_cmpR op_eq (pe_ix ix_tup (pv 4) pe_int (fun _ _ => rfl)) pe_str (nomark _)) (pw_and1 (pt_cmpR op_ge (pe_ix ix_tup (pv 4) pe_int (fun _ _ => rfl)) (pv 2) (nomark _)))))))) (pss_one (ps_ret pe_bl)) pss_nil)
    (pss_one (ps_ret (pe_or (pe_cmpR op_notIn_seq (pe_ix ix_tup (pv 4) pe_int (fun _ _ => rfl)) (pe_lst (pa_cons pe_str (pa_cons pe_str pa_nil))) rfl) (pe_one (pe_cmpR op_eq (pv 5) (pv 3) (nomark _))))))))), ?_⟩
  obtain ⟨a, hat, ha⟩ := hC.one hn hi
  have hoki := hok.ins i (List.mem_of_getElem? hi)
  refine ⟨_, rfl, c, _, _, _, rfl, rfl, SqT.of hC.c, rfl, _, rfl, s, _, _, _, rfl, rfl, SqT.of hC.s, hat, ?_⟩
  refine ⟨_, rfl, _, rfl, c, _, _, _, rfl, rfl, SqT.of hC.c, rfl, a, e, exs, es, i, _, rfl, ha, hC.e, hC.es, hoki, fun p1 H1 x1 g1 => ?_⟩
  refine ⟨p1, _, _, _, rfl, rfl, SqT.of g1, rfl, ?_⟩
  have ha1 := x1 _ _ ha
  refine ⟨_, rfl, _, rfl, _, _, rfl, rfl, _, rfl, if2 (fun cc => ?_) (fun cc => ?_)⟩
  · have c' := of_decide_eq_true cc
    refine ifT rfl ?_
    have e1 : snd es i l h = false := if_pos c'
    rw [e1] at q
    exact q H1 x1
  have c' := of_decide_eq_false cc
  have e1 : snd es i l h = sndT es l h i := if_neg c'
  rw [e1] at q
  by_cases hA : ∃ k, i = .arg k
  · obtain ⟨k, rfl⟩ := hA
    refine ⟨_, rfl, a, _, _, _, rfl, rfl, SqT.of ha1, rfl, rfl, _, rfl, ifT (by decide +kernel) ?_⟩
    refine ⟨_, rfl, a, _, _, _, rfl, rfl, SqT.of ha1, rfl, _, rfl, _, _, rfl, rfl, _, rfl, if2 (fun c2 => ?_) (fun c2 => ?_)⟩
    · have c3 := of_decide_eq_true c2
      have e2 : decide (k < l) = false := decide_eq_false (by omega)
      simp only [sndT, e2] at q
      exact q H1 x1
    · have c3 := of_decide_eq_false c2
      have e2 : decide (k < l) = true := decide_eq_true (by omega)
      simp only [sndT, e2] at q
      refine ⟨_, rfl, a, _, _, _, rfl, rfl, SqT.of ha1, rfl, z2, ?_⟩
      intro p2 hp_p2
      generalize hG_p2 : upd _ p2 _ = H2
      obtain ⟨x2, g2⟩ := nw hp_p2 hG_p2
      refine ⟨p2, _, rfl, .inl (SqL.of g2), rfl, by simp [flatV], _, rfl, ifT (by decide +kernel) ?_⟩
      exact q H2 (x1.trans x2)
  · refine ⟨_, rfl, a, _, _, _, rfl, rfl, SqT.of ha1, i.v0, rfl, _, rfl, ifF (tagA hA) (ifF rfl ?_)⟩
    refine ⟨_, rfl, a, _, _, _, rfl, rfl, SqT.of ha1, i.v0, z2, ?_⟩
    intro p2 hp_p2
    generalize hG_p2 : upd _ p2 _ = H2
    obtain ⟨x2, g2⟩ := nw hp_p2 hG_p2
    refine ⟨p2, _, rfl, .inl (SqL.of g2), rfl, by simp [flatV], _, rfl, ?_⟩
    by_cases hB : i = .back
    · subst hB
      refine ifF (by decide +kernel) ⟨_, rfl, _, rfl, rfl, ?_⟩
      have e2 : decide (V.int (ndT es .back) = V.int h) = decide (ndT es .back = h) := dec_int.trans (by rw [Bool.eq_iff_iff]; simp)
      rw [e2]
      exact q H2 (x1.trans x2)
    · by_cases hT : ∃ j, i = .tail j
      · obtain ⟨j, rfl⟩ := hT
        have e5 : inV (.str (Ins.tail j).tag) [.str "back", .str "tail"] = true := by simp only [Ins.tag] <;> decide +kernel
        refine ifF (by rw [e5]; rfl) ⟨_, rfl, _, rfl, rfl, ?_⟩
        have e2 : decide (V.int (ndT es (.tail j)) = V.int h) = decide (ndT es (.tail j) = h) := dec_int.trans (by rw [Bool.eq_iff_iff]; simp)
        rw [e2]
        exact q H2 (x1.trans x2)
      · have e3 : sndT es l h i = true := by
          cases i with
          | arg k => exact absurd ⟨k, rfl⟩ hA
          | back => exact absurd rfl hB
          | tail j => exact absurd ⟨j, rfl⟩ hT
          | _ => rfl
        rw [e3] at q
        have e4 := tagBT hB (fun j z => hT ⟨j, z⟩)
        refine ifT (by rw [e4]; rfl) ?_
        exact q H2 (x1.trans x2)
end

end M10
set_option Elab.async false
set_option linter.all false
set_option maxRecDepth 100000
set_option maxHeartbeats 4000000
namespace M10
open PySem PySem.Spec PyProof.Rows L2 Evl
/-! ### the walk over a function's instructions -/
abbrev Fd := List (Int × Int)
def fget (f : Fd) (a : Int) : Option Int := (f.find? fun p => decide (p.1 = a)).map (·.2)
abbrev dK (f : Fd) : List (Key × V) := f.map fun p => (.inl p.1, .int p.2)
theorem dK_get (f : Fd) (a : Int) : valV (dK f) (.inl a) = (fget f a).map V.int := by
  unfold valV fget
  induction f with
  | nil => rfl
  | cons p f ih =>
    rw [show dK (p :: f) = (.inl p.1, .int p.2) :: dK f from rfl, List.find?_cons, List.find?_cons]
    by_cases h : p.1 = a
    · rw [decide_eq_true h, decide_eq_true (show (Sum.inl p.1 : Key) = .inl a by rw [h])]
      rfl
    · rw [decide_eq_false h, decide_eq_false (show ¬ (Sum.inl p.1 : Key) = .inl a from fun z => h (Sum.inl.inj z))]
      exact ih
theorem dK_put {f : Fd} {a h : Int} (hn : fget f a = none) : putK (dK f) (.inl a) (.int h) = dK (f ++ [(a, h)]) := by
  unfold putK
  have hany : ((dK f).any fun kv => decide (kv.1 = .inl a)) = false := by
    unfold fget at hn
    rw [Option.map_eq_none_iff, List.find?_eq_none] at hn
    rw [List.any_eq_false]
    intro kv hkv
    obtain ⟨p, hp, rfl⟩ := List.mem_map.mp hkv
    have := hn p hp
    intro z
    exact this (decide_eq_true (Sum.inl.inj (of_decide_eq_true z)))
  rw [hany, if_neg Bool.false_ne_true]
  show dK f ++ _ = (f ++ [(a, h)]).map _
  rw [List.map_append]
  rfl
def hstep (es : List (Int × Int)) (is : List Ins) (b e l : Int) (r : Int × Int) (f m : Fd) : Option (Fd × Fd) :=
  if b ≤ r.1 ∧ r.1 < e then (match fget f r.1 with
    | some h => if h = r.2 then some (f, m) else none
    | none => (match is[r.1.toNat]? with
      | none => none
      | some i => if snd es i l r.2 = true then some (f ++ [(r.1, r.2)], m ++ (nxt i r.1).map fun a => (a, r.2 - ndT es i + ndP i)) else none))
  else none
def hpass (es : List (Int × Int)) (is : List Ins) (b e l : Int) : Fd → Fd → Fd → Option (Fd × Fd)
  | [], f, m => some (f, m)
  | r :: rs, f, m => match hstep es is b e l r f m with
    | none => none
    | some (f', m') => hpass es is b e l rs f' m'
def hwalk (es : List (Int × Int)) (is : List Ins) (b e l : Int) : Nat → Fd → Fd → Option (Option Fd)
  | _, [], f => some (some f)
  | 0, _ :: _, _ => none
  | n + 1, r :: rs, f => match hpass es is b e l (r :: rs) f [] with
    | none => some none
    | some (f', m) => hwalk es is b e l n m f'
/-- how many are not come to -/
def unv (is : List Ins) (f : Fd) : Nat := (List.range is.length).countP fun k : Nat => (fget f (k : Int)).isNone
theorem countP_lt {α : Type} {p q : α → Bool} {l : List α} (h : ∀ x ∈ l, q x = true → p x = true) {y : α} (hy : y ∈ l) (hp : p y = true) (hq : q y = false) : l.countP q < l.countP p := by
  induction l with
  | nil => exact absurd hy List.not_mem_nil
  | cons x l ih =>
    have h' : ∀ x ∈ l, q x = true → p x = true := fun z hz => h z (List.mem_cons_of_mem _ hz)
    have hle : l.countP q ≤ l.countP p := List.countP_mono_left h'
    rw [List.countP_cons, List.countP_cons]
    rcases List.mem_cons.mp hy with rfl | hy
    · rw [hp, hq]
      simp
      omega
    · have := ih h' hy
      by_cases hqx : q x = true
      · rw [hqx, h x List.mem_cons_self hqx]
        simp
        omega
      · rw [Bool.eq_false_iff.mpr hqx]
        by_cases hpx : p x = true
        · rw [hpx]
          simp
          omega
        · rw [Bool.eq_false_iff.mpr hpx]
          simp
          omega
theorem fget_app {f : Fd} {a h k : Int} : fget (f ++ [(a, h)]) k = match fget f k with
    | some v => some v
    | none => if a = k then some h else none := by
  unfold fget
  rw [List.find?_append]
  cases List.find? (fun p => decide (p.1 = k)) f with
  | some v => rfl
  | none =>
    by_cases hh : a = k
    · simp [hh]
    · simp [hh]
theorem hstep_unv {es : List (Int × Int)} {is : List Ins} {b e l : Int} {r : Int × Int} {f m f' m' : Fd} (hb : 0 ≤ b) (h : hstep es is b e l r f m = some (f', m')) : (f' = f ∧ m' = m) ∨ unv is f' < unv is f := by
  unfold hstep at h
  split at h
  · rename_i hbe
    split at h
    · split at h
      · cases h
        exact .inl ⟨rfl, rfl⟩
      · cases h
    · rename_i hn
      split at h
      · cases h
      · rename_i i hi
        split at h
        · cases h
          refine .inr (countP_lt (y := r.1.toNat) (fun x _ hx => ?_) (List.mem_range.mpr (List.getElem?_eq_some_iff.mp hi).1) ?_ ?_)
          · rw [fget_app] at hx
            split at hx
            · cases hx
            · rename_i h2
              rw [h2]
              rfl
          · rw [show ((r.1.toNat : Nat) : Int) = r.1 by omega, hn]
            rfl
          · rw [fget_app, show ((r.1.toNat : Nat) : Int) = r.1 by omega, hn]
            simp
        · cases h
  · cases h
theorem hpass_unv {es : List (Int × Int)} {is : List Ins} {b e l : Int} (hb : 0 ≤ b) : ∀ {rs f m f' m' : Fd}, hpass es is b e l rs f m = some (f', m') → (f' = f ∧ m' = m) ∨ unv is f' < unv is f
  | [], f, m, f', m', h => by
    cases h
    exact .inl ⟨rfl, rfl⟩
  | r :: rs, f, m, f', m', h => by
    unfold hpass at h
    split at h
    · cases h
    · rename_i f1 m1 h1
      have a := hstep_unv hb h1
      have b := hpass_unv hb h
      rcases a with ⟨rfl, rfl⟩ | a
      · exact b
      · rcases b with ⟨rfl, rfl⟩ | b
        · exact .inr a
        · exact .inr (Nat.lt_trans b a)
theorem unv_le (is : List Ins) (f : Fd) : unv is f ≤ is.length := by
  have := List.countP_le_length (p := fun k : Nat => (fget f (k : Int)).isNone) (l := List.range is.length)
  rw [List.length_range] at this
  exact this
theorem hwalk_nil {es : List (Int × Int)} {is : List Ins} {b e l : Int} {n : Nat} {f : Fd} : hwalk es is b e l n [] f = some (some f) := by cases n <;> rfl
theorem hwalk_tot {es : List (Int × Int)} {is : List Ins} {b e l : Int} (hb : 0 ≤ b) : ∀ (n : Nat) (rs f : Fd), unv is f + 1 ≤ n → ∃ r, hwalk es is b e l n rs f = some r
  | n, [], f, _ => ⟨_, hwalk_nil⟩
  | 0, _ :: _, f, h => absurd h (by omega)
  | n + 1, r :: rs, f, h => by
    unfold hwalk
    cases hp : hpass es is b e l (r :: rs) f [] with
    | none => exact ⟨_, rfl⟩
    | some q =>
      obtain ⟨f', m⟩ := q
      rcases hpass_unv hb hp with ⟨rfl, rfl⟩ | h2
      · exact ⟨_, hwalk_nil⟩
      · exact hwalk_tot hb n m f' (by omega)
def hall (es : List (Int × Int)) (is : List Ins) : List (Int × Int × Int) → Fd → Option Fd
  | [], f => some f
  | (b, e, l) :: ts, f => match hwalk es is b e l (is.length + 1) [(b, 0)] f with
    | some (some f') => hall es is ts f'
    | _ => none

end M10
set_option Elab.async false
set_option linter.all false
set_option maxRecDepth 100000
set_option maxHeartbeats 4000000
namespace M10
open PySem PySem.Spec PyProof.Rows L2 Evl
structure Unf (K : PySem.W.Frag) (mg : Str → Option Value) (C : Addr) : Prop where
  ex : ∃ (B newId initId : String) (bmB : List Value), PySem.ExcBaseFacts B newId initId bmB ∧ PySem.W.excIn K C bmB newId = true
  g : mg "Unsound" = some (.ref C)
  kC : PySem.W.keepIn K (.ref C) = true
  sub : PySem.W.subIn K (.ref C) (.type "BaseException") = some true
  ty : PySem.W.typeIn K (.ref C) = some (.type "type")
theorem pUns {X : Cx} {C : Addr} {p pos : Pos} (U : Unf X.K X.mg C) (hg : Gl X "Unsound" := by rfl) : PMk X (.Call (.Name "Unsound" p) [] [] pos) (fun _ H Q => Q (.ref C) none H) := by
  obtain ⟨B, newId, initId, bmB, F, q⟩ := U.ex
  exact pmk_own0 F q U.g U.kC (raises_own U.sub U.ty) hg (by decide)
theorem unv_lt {is : List Ins} {f : Fd} {a h : Int} (h0 : 0 ≤ a) (h1 : a.toNat < is.length) (hn : fget f a = none) : unv is (f ++ [(a, h)]) < unv is f := by
  refine countP_lt (y := a.toNat) (fun x _ hx => ?_) (List.mem_range.mpr h1) ?_ ?_
  · rw [fget_app] at hx
    split at hx
    · cases hx
    · rename_i h2
      rw [h2]
      rfl
  · rw [show ((a.toNat : Nat) : Int) = a by omega, hn]
    rfl
  · rw [fget_app, show ((a.toNat : Nat) : Int) = a by omega, hn]
    simp
/-- rows of (address, height) -/
def RowAt (H : Hp) (x : V) (r : Int × Int) : Prop := ∃ a, x = .ref a ∧ H a = some (.tup [.int r.1, .int r.2])
theorem RowAt.mono {H H' : Hp} {x : V} {r : Int × Int} (h : RowAt H x r) (e : Tx H H') : RowAt H' x r := by
  obtain ⟨a, e1, e2⟩ := h
  exact ⟨a, e1, e _ _ e2⟩
def spPutH (CU : Addr) : Sp := fun vs H Q E => ∃ (c d ce cs : Addr) (b e l : Int) (exs ixs : List V) (es : List (Int × Int)) (is : List Ins) (f : Fd) (n : Nat) (res : Option Fd), vs = [.ref c, .int b, .int e, .int l, .ref d] ∧ CodeAt H c ce cs exs ixs es is ∧ CodeOk es is ∧
  0 ≤ b ∧ e ≤ (is.length : Int) ∧ H d = some (.dK (dK f)) ∧ f.length + unv is f ≤ is.length ∧ hwalk es is b e l n [(b, 0)] f = some res ∧
  (res = none → ∀ H', Kp d H H' → E (.ref CU) none H') ∧ (∀ f', res = some f' → ∀ H', Kp d H H' → H' d = some (.dK (dK f')) → f'.length + unv is f' ≤ is.length → Q .non H')
theorem Kp.txd {d : Addr} {H H' : Hp} {kvs : List (Key × V)} (k : Kp d H H') (h : H d = some (.dK kvs)) : Tx H H' := fun a xs ha => k a _ (fun z => by
  rw [z, h] at ha
  cases ha) ha
section
variable {P : Program} {w : World} {K : PySem.W.Frag} {mg : Str → Option Value} {base : Heap}
theorem sc_put_heights : FnScope ["code", "begin", "end", "lates", "found", "rows", "more", "at", "height", "takes", "puts", "one"] ["code", "begin", "end", "lates", "found"] (defScope s_put_heights) := ⟨rfl, rfl, rfl, by decide +kernel, rfl, by decide +kernel, by decide +kernel⟩
theorem ok_put_heights {CU : Addr} (D : Dd K mg "put_heights" s_put_heights ["code", "begin", "end", "lates", "found"]) (TU : Unf K mg CU) (T : Tb K mg) (c_needs : Dn P w K mg base L2.CX0 1 "needs" spNeeds) (c_nexts : Dn P w K mg base L2.CX0 1 "nexts" spNexts) (c_is_sound : Dn P w K mg base L2.CX0 2 "is_sound" spSound) :
    Dn P w K mg base (L2.CX P w) 3 "put_heights" (spPutH CU) := by
  refine D.okX sc_put_heights (fun vs H Q E h => by obtain ⟨c, d, ce, cs, b, e, l, exs, ixs, es, is, f, n, res, rfl, _⟩ := h; rfl) (fun f cdv A outer s H vs Q E hr h => ?_)
  have hu : (A.deeper (envOfC "put_heights" (defScope s_put_heights) s.heap.objs.size f cdv)).units + 1 < cLine := by
    have := hr.un
    omega
  obtain ⟨c, d, ce, cs, b, e, l, exs, ixs, es, is, f0, n, res, rfl, hC, hok, hb0, he1, hd, hfl, hw, qE, q⟩ := h
  -- ["code", "begin", "end", "lates", "found", "rows", "more", "at", "height", "takes", "puts", "one"]
  refine ⟨_, (pss_cons (sset 5 sc_put_heights.nd (pe_lst (pa_cons (pe_tup (pa_cons (pv 1) (pa_cons pe_int pa_nil))) pa_nil)))
    (pss_one (ps_while (passes_of rfl) (pt_truth (pv 5) (by intro _; rfl)) (pss_cons (sset 6 sc_put_heights.nd (pe_lst pa_nil))
    (pss_cons (ps_for (passes_of rfl) rfl (pi_list (pv 5)) (pg_tup rfl (pgs_cons (gnm 7 sc_put_heights.nd) (pgs_cons (gnm 8 sc_put_heights.nd) pgs_nil))) (pss_cons (ps_if (PW.pt (pw_or (pt_not (pt_chain op_le op_lt (pv 1) (pv 7) (pv 2))) (pw_or1 (pt_cmpR op_ne (pe_dget2 hu (pv 4) (pv 7) (pv 8) ⟨rfl, rfl, rfl, rfl⟩) (pv 8) (nomark _))))) (pss_one (ps_raise rfl (takes_of rfl rfl rfl rfl) (pUns TU))) pss_nil)
    (pss_one (ps_if (pt_cmp (pc_dnotin hu (pv 7) (pv 4))) (pss_cons (ps_dput hu (pv 4) (pv 7) (pv 8) rfl)
    (pss_cons (ps_if (pt_not (pt_val (pe_c0 c_is_sound hr (pa_cons (pv 0) (pa_cons (pv 7) (pa_cons (pv 3) (pa_cons (pv 8) pa_nil))))))) (pss_one (ps_raise rfl (takes_of rfl rfl rfl rfl) (pUns TU))) pss_nil)
    (pss_cons (ps_asg (pe_c0 c_needs hr (pa_cons (pe_ix ix_tup (pe_ix ix_tup (pv 0) pe_int (fun _ _ => rfl)) (pv 7) (fun _ _ => rfl)) (pa_cons (pe_ix ix_tup (pv 0) pe_int (fun _ _ => rfl)) pa_nil))) (pg_tup rfl (pgs_cons (gnm 9 sc_put_heights.nd) (pgs_cons (gnm 10 sc_put_heights.nd) pgs_nil))))
    (pss_one (sset 6 sc_put_heights.nd (pe_op op_cat (pv 6) (pe_lc (own := [("one", 11)]) (g := (gName 11)) (tt := tYes) rfl sc_put_heights.nd (pi_list (pe_c0 c_nexts hr (pa_cons (pe_ix ix_tup (pe_ix ix_tup (pv 0) pe_int (fun _ _ => rfl)) (pv 7) (fun _ _ => rfl)) (pa_cons (pv 7) pa_nil)))) (blkOk_by (N := ["code", "begin", "end", "lates", "found", "rows", "more", "at", "height", "takes", "puts", "one"]) (sc := defScope s_put_heights) (by decide +kernel)) (fun _ _ _ _ _ => (gnm 11 sc_put_heights.nd)) (fun _ _ _ _ _ => pts_nil) (fun _ _ _ _ _ => (pe_tup (pa_cons (pv 11) (pa_cons (pe_op op_add (pe_op op_sub (pv 8) (pv 9)) (pv 10)) pa_nil))))))))))) pss_nil))))
    (pss_one (sset 5 sc_put_heights.nd (pv 6)))))))), ?_⟩
  refine ⟨_, rfl, z2, ?_⟩
  intro t1 hp_t1
  generalize hG_t1 : upd _ t1 _ = H1
  obtain ⟨x1, g1⟩ := nw hp_t1 hG_t1
  refine ⟨z1, ?_⟩
  intro r1 hp_r1
  generalize hG_r1 : upd _ r1 _ = H2
  obtain ⟨x2, g2⟩ := nw hp_r1 hG_r1
  have x02 := x1.trans x2
  refine ⟨fun m σ' H' => ∃ (r : Addr) (v6 v7 v8 v9 v10 v11 : Option V) (rows f : Fd) (ws : List V), σ' = [some (.ref c), some (.int b), some (.int e), some (.int l), some (.ref d), some (.ref r), v6, v7, v8, v9, v10, none] ∧ Kp d H H' ∧ H' d = some (.dK (dK f)) ∧
    H' r = some (.lst ws) ∧ Paired (RowAt H') ws rows ∧ f.length + unv is f ≤ is.length ∧ rows.length ≤ 2 * is.length + 1 ∧ hwalk es is b e l m rows f = some res, ?_, ?_⟩
  · exact ⟨n, r1, _, _, _, _, _, none, [(b, 0)], f0, [.ref t1], rfl, Kp.of x02, x02 _ _ hd, g2, .cons ⟨t1, rfl, x2 _ _ g1⟩ .nil, hfl, by show 1 ≤ 2 * is.length + 1; omega, hw⟩
  rintro m _ H3 ⟨r, v6, v7, v8, v9, v10, v11, rows, f, ws, rfl, k3, hd3, hr3, hP3, hfl3, hrl3, hw3⟩
  refine ⟨_, rfl, _, .inl ⟨_, SqL.of hr3, rfl⟩, if2 (fun cc => ?_) (fun cc => ?_)⟩
  · refine ⟨_, fun _ _ h => h, ?_⟩
    have hrows : ∃ r0 rs, rows = r0 :: rs := by
      cases rows with
      | nil =>
        cases hP3
        cases cc
      | cons r0 rs => exact ⟨_, _, rfl⟩
    obtain ⟨r0, rs, hre⟩ := hrows
    have hm : ∃ m', m = m' + 1 := by
      cases m with
      | zero =>
        rw [hre] at hw3
        cases hw3
      | succ m' => exact ⟨m', rfl⟩
    obtain ⟨m', rfl⟩ := hm
    have hwp : ∀ q, hpass es is b e l rows f [] = q → (match q with | none => some none | some (f', mm) => hwalk es is b e l m' mm f') = some res := fun q hq => by
      rw [← hq, hre, ← hw3, hre]
      rfl
    refine ⟨z0, ?_⟩
    intro mo hp_mo
    generalize hG_mo : upd _ mo _ = H4
    obtain ⟨x4, g4⟩ := nw hp_mo hG_mo
    have hd4 := x4 _ _ hd3
    have hr4 := x4 _ _ hr3
    have hP4 : Paired (RowAt H4) ws rows := L2.Paired.mapP hP3 fun _ _ h => h.mono (Tx.of x4)
    have hdn : d ≠ mo := ne_of_none hd3 hp_mo
    refine ⟨_, rfl, r, rfl, ⟨_, SqL.of hr4⟩, ?_⟩
    refine for_list (K := K) (a := r) (xs := ws) (fun i σ' H' => ∃ (v7 v8 v9 v10 : Option V) (mo : Addr) (f1 m1 : Fd) (ms : List V), σ' = [some (.ref c), some (.int b), some (.int e), some (.int l), some (.ref d), some (.ref r), some (.ref mo), v7, v8, v9, v10, none] ∧ Kp d H H' ∧ H' d = some (.dK (dK f1)) ∧ H' r = some (.lst ws) ∧
        Paired (RowAt H') ws rows ∧ H' mo = some (.lst ms) ∧ Paired (RowAt H') ms m1 ∧ f1.length + unv is f1 ≤ is.length ∧ m1.length + 2 * unv is f1 ≤ 2 * is.length ∧ hpass es is b e l (rows.drop i) f1 m1 = hpass es is b e l rows f [])
      ⟨_, _, _, _, mo, f, [], [], rfl, k3.trans (Kp.of x4), hd4, hr4, hP4, g4, .nil, hfl3, by have := unv_le is f; show 0 + 2 * unv is f ≤ _; omega, rfl⟩ ?_ ?_ ?_
    · rintro i _ H' _ ⟨_, _, _, _, _, _, _, _, _, _, _, h, _⟩
      exact SqL.of h
    · rintro i y _ H5 hy ⟨v7, v8, v9, v10, mo, f1, m1, ms, rfl, k5, hd5, hr5, hP5, hmo5, hPm5, hfl5, hml5, hp5⟩
      obtain ⟨⟨at_, hh⟩, hrow, a, rfl, ha⟩ := Paired.at_ hP5 hy
      have hdrop : rows.drop i = (at_, hh) :: rows.drop (i + 1) := List.drop_eq_getElem?_toList_append.trans (by rw [hrow]; rfl)
      rw [hdrop] at hp5
      refine ⟨a, _, rfl, SqT.of ha, rfl, _, _, rfl, _, _, rfl, rfl, ?_⟩
      have bad : hstep es is b e l (at_, hh) f1 m1 = none → res = none := fun hs => by
        have h1 : hpass es is b e l ((at_, hh) :: rows.drop (i + 1)) f1 m1 = none := by simp only [hpass, hs]
        rw [h1] at hp5
        have := hwp _ hp5.symm
        exact (Option.some.inj this).symm
      have good : ∀ f2 m2, hstep es is b e l (at_, hh) f1 m1 = some (f2, m2) → hpass es is b e l (rows.drop (i + 1)) f2 m2 = hpass es is b e l rows f [] := fun f2 m2 hs => by
        rw [← hp5]
        simp only [hpass, hs]
      by_cases hb1 : b ≤ at_
      case neg =>
        refine ⟨_, rfl, _, rfl, _, _, rfl, rfl, _, rfl, ifF (decide_eq_false hb1) ⟨_, rfl, ifT rfl (ifT rfl ?_)⟩⟩
        exact qE (bad (if_neg fun z => hb1 z.1)) _ k5
      by_cases hb2 : at_ < e
      case neg =>
        refine ⟨_, rfl, _, rfl, _, _, rfl, rfl, _, rfl, ifT (decide_eq_true hb1) ⟨_, rfl, _, _, rfl, rfl, _, rfl, ?_⟩⟩
        rw [decide_eq_false hb2]
        refine ifT rfl (ifT rfl ?_)
        exact qE (bad (if_neg fun z => hb2 z.2)) _ k5
      refine ⟨_, rfl, _, rfl, _, _, rfl, rfl, _, rfl, ifT (decide_eq_true hb1) ⟨_, rfl, _, _, rfl, rfl, _, rfl, ?_⟩⟩
      rw [decide_eq_true hb2]
      refine ifF rfl ?_
      have hstepE : hstep es is b e l (at_, hh) f1 m1 = (match fget f1 at_ with
        | some h => if h = hh then some (f1, m1) else none
        | none => (match is[at_.toNat]? with
          | none => none
          | some i => if snd es i l hh = true then some (f1 ++ [(at_, hh)], m1 ++ (nxt i at_).map fun a => (a, hh - ndT es i + ndP i)) else none)) := if_pos ⟨hb1, hb2⟩
      refine ⟨_, rfl, d, rfl, .inl ⟨_, .inl hd5⟩, _, rfl, _, rfl, _, DGet.k (k := .inl at_) hd5, ?_⟩
      rw [dK_get]
      cases hg : fget f1 at_ with
      | some h1 =>
        rw [hg] at hstepE
        refine ⟨_, rfl, rfl, _, rfl, ?_⟩
        by_cases hh1 : h1 = hh
        · subst hh1
          refine ifF (by simp) ?_
          refine ⟨_, rfl, _, rfl, d, _, rfl, DGet.k (k := .inl at_) hd5, ?_⟩
          rw [dK_get, hg]
          refine ⟨_, rfl, ifF rfl ?_⟩
          exact ⟨_, _, _, _, mo, f1, m1, ms, rfl, k5, hd5, hr5, hP5, hmo5, hPm5, hfl5, hml5, good _ _ (hstepE.trans (if_pos rfl))⟩
        · refine ifT (by
            have : decide (V.int h1 = V.int hh) = false := decide_eq_false fun z => hh1 (V.int.inj z)
            show (!decide (V.int h1 = V.int hh)) = true
            rw [this]
            rfl) ?_
          exact qE (bad (hstepE.trans (if_neg hh1))) _ k5
      | none =>
        rw [hg] at hstepE
        refine ⟨_, rfl, rfl, _, rfl, ifF (by simp) ?_⟩
        refine ⟨_, rfl, _, rfl, d, _, rfl, DGet.k (k := .inl at_) hd5, ?_⟩
        rw [dK_get, hg]
        refine ⟨_, rfl, ifT rfl ?_⟩
        have hul := unv_le is f1
        refine ⟨_, rfl, _, rfl, _, rfl, d, _, rfl, DPut.k (k := .inl at_) hd5 (by rw [List.length_map]; have := hok.ilen; exact sz' (by omega)), ?_⟩
        rw [dK_put hg]
        have k6 : Kp d H (upd H5 d (.dK (dK (f1 ++ [(at_, hh)])))) := k5.trans Kp.put
        have kp6 : Kp d H5 (upd H5 d (.dK (dK (f1 ++ [(at_, hh)])))) := Kp.put
        have hd6 : (upd H5 d (.dK (dK (f1 ++ [(at_, hh)])))) d = some (.dK (dK (f1 ++ [(at_, hh)]))) := upd_same
        generalize upd H5 d (.dK (dK (f1 ++ [(at_, hh)]))) = H6 at k6 kp6 hd6
        have nm : mo ≠ d := fun z => by
          rw [z, hd5] at hmo5
          cases hmo5
        have nr : r ≠ d := fun z => by
          rw [z, hd5] at hr5
          cases hr5
        have t56 : Tx H5 H6 := kp6.txd hd5
        have C6 := hC.mono (k6.txd hd)
        have hal : at_.toNat < is.length := by omega
        obtain ⟨ins, hins⟩ : ∃ ins, is[at_.toNat]? = some ins := ⟨_, List.getElem?_eq_getElem hal⟩
        rw [hins] at hstepE
        have hul2 := unv_lt (is := is) (f := f1) (a := at_) (h := hh) (by omega) hal hg
        refine ⟨_, rfl, _, rfl, _, rfl, _, rfl, c, ce, cs, exs, ixs, es, is, at_, l, hh, ins, rfl, C6, hok, by omega, hins, fun H7 x7 => ⟨_, rfl, ?_⟩⟩
        cases hsd : snd es ins l hh with
        | false =>
          refine ifT rfl ?_
          exact qE (bad (hstepE.trans (if_neg (by rw [hsd]; exact Bool.false_ne_true)))) _ (k6.trans (Kp.of x7))
        | true =>
          refine ifF rfl ?_
          have hst := hstepE.trans (if_pos hsd)
          have C7 := C6.mono (Tx.of x7)
          obtain ⟨a2, hat2, ha2⟩ := C7.one (n := at_) (by omega) hins
          have hoki := hok.ins ins (List.mem_of_getElem? hins)
          refine ⟨_, rfl, c, _, _, _, rfl, rfl, SqT.of C7.c, rfl, _, rfl, cs, _, _, _, rfl, rfl, SqT.of C7.s, hat2, _, rfl, c, _, _, _, rfl, rfl, SqT.of C7.c, rfl, a2, ce, exs, es, ins, _, rfl, ha2, C7.e, C7.es, hoki, fun p8 H8 x8 g8 => ?_⟩
          refine ⟨p8, _, rfl, SqT.of g8, rfl, _, _, rfl, _, _, rfl, rfl, ?_⟩
          have C8 := C7.mono (Tx.of x8)
          refine ⟨_, rfl, _, rfl, c, _, _, _, rfl, rfl, SqT.of C8.c, rfl, _, rfl, cs, _, _, _, rfl, rfl, SqT.of C8.s, hat2, _, rfl, a2, ins, at_, rfl, x8 _ _ ha2, fun p9 H9 x9 g9 => ⟨p9, rfl, ⟨_, SqL.of g9⟩, fun DD hD => ?_⟩⟩
          have x69 := x7.trans (x8.trans x9)
          refine lc_list (K := K) (a := p9) (xs := (nxt ins at_).map V.int) (fun i H' => ∃ acc : List V, H' DD = some (.lst acc) ∧ acc.length ≤ i ∧ Kp DD H9 H' ∧ Paired (RowAt H') acc (((nxt ins at_).take i).map fun a => (a, hh - ndT es ins + ndP ins))) ⟨[], upd_same, Nat.le_refl _, Kp.put, by simpa using Paired.nil⟩ ?_ ?_ ?_
          · rintro j H' _ ⟨acc, _, _, kp, _⟩
            exact SqL.of (kp.ex hD _ _ g9)
          · rintro j y H' hy ⟨acc, hacc, hal9, kp, hpa⟩
            obtain ⟨n1, hn1, rfl⟩ : ∃ n1, (nxt ins at_)[j]? = some n1 ∧ y = V.int n1 := by
              rw [List.getElem?_map] at hy
              cases hz : (nxt ins at_)[j]? with
              | none => rw [hz] at hy; cases hy
              | some n1 => rw [hz] at hy; cases hy; exact ⟨n1, rfl, rfl⟩
            have hj2 : j < 2 := by
              have h1 := (List.getElem?_eq_some_iff.mp hn1).1
              have h2 : (nxt ins at_).length ≤ 2 := by cases ins <;> simp [nxt]
              omega
            refine ⟨rfl, _, rfl, _, rfl, _, rfl, _, _, rfl, rfl, _, rfl, _, _, rfl, rfl, z2, ?_⟩
            intro a5 hp_a5
            generalize hG_a5 : upd _ a5 _ = H10
            obtain ⟨x10, g10⟩ := nw hp_a5 hG_a5
            have hpa10 := L2.Paired.mapP hpa fun _ _ h => h.mono (Tx.of x10)
            refine ⟨acc, x10 _ _ hacc, sz' (by omega), acc ++ [.ref a5], upd_same, by rw [List.length_append, List.length_singleton]; omega, (kp.trans (Kp.of x10)).trans Kp.put, ?_⟩
            rw [take_snoc hn1, List.map_append]
            have tt : Tx H10 (upd H10 DD (.lst (acc ++ [.ref a5]))) := Kp.put.tx (x10 _ _ hacc)
            exact Paired.snoc ⟨a5, rfl, tt _ _ g10⟩ (L2.Paired.mapP hpa10 fun _ _ h => h.mono tt)
          · rintro H10 ⟨acc, hacc, hal9, kp, hpa⟩
            rw [List.length_map, List.take_of_length_le (Nat.le_refl _)] at hpa
            have x610 := x69.trans (kp.ex hD)
            have hmo10 : H10 mo = some (.lst ms) := x610 _ _ (kp6 _ _ nm hmo5)
            have hml := hPm5.length
            have h2 : (nxt ins at_).length ≤ 2 := by cases ins <;> simp [nxt]
            have hac : acc.length ≤ 2 := by rw [List.length_map] at hal9; omega
            have hil := hok.ilen
            refine ⟨mo, DD, ms, acc, rfl, rfl, hmo10, hacc, sz (by omega), ?_⟩
            intro mo2 hp_mo2
            generalize hG_mo2 : upd _ mo2 _ = H11
            obtain ⟨x11, g11⟩ := nw hp_mo2 hG_mo2
            have x611 := x610.trans x11
            have t511 : Tx H5 H11 := t56.trans (Tx.of x611)
            refine ⟨_, _, _, _, mo2, _, _, _, rfl, k6.trans (Kp.of x611), x611 _ _ hd6, x611 _ _ (kp6 _ _ nr hr5), L2.Paired.mapP hP5 fun _ _ h => h.mono t511, g11, Paired.app (L2.Paired.mapP hPm5 fun _ _ h => h.mono t511) (L2.Paired.mapP hpa fun _ _ h => h.mono (Tx.of x11)), ?_, ?_, good _ _ hst⟩
            · rw [List.length_append, List.length_singleton]
              omega
            · rw [List.length_append, List.length_map]
              omega
    · rintro _ H5 ⟨v7, v8, v9, v10, mo, f1, m1, ms, rfl, k5, hd5, hr5, hP5, hmo5, hPm5, hfl5, hml5, hp5⟩
      rw [List.drop_of_length_le (Nat.le_of_eq hP5.length.symm)] at hp5
      have hw5 := hwp _ hp5.symm
      refine ⟨_, rfl, m', Nat.lt_succ_self _, mo, _, _, _, _, _, none, m1, f1, ms, rfl, k5, hd5, hmo5, hPm5, hfl5, by omega, hw5⟩
  · have hre : rows = [] := by
      cases hP3 with
      | nil => rfl
      | cons h1 h2 => cases cc
    subst hre
    rw [hwalk_nil] at hw3
    cases hw3
    exact q _ rfl _ k3 hd3 hfl3
end

end M10
set_option Elab.async false
set_option linter.all false
set_option maxRecDepth 100000
set_option maxHeartbeats 4000000
namespace M10
open PySem PySem.Spec PyProof.Rows L2 Evl
theorem cr_max3 {X : Cx} (hc : X.calm = true) : CallR X (.builtin "max") (fun xs H Q => ∃ i j k, xs = [.int i, .int j, .int k] ∧ Q (.int (max (max i j) k)) H) := by
  intro pins s σ H xs us Q I r h
  obtain ⟨i, j, k, rfl, q⟩ := h
  refine call_max3Nu hc pins s σ H _ us Q I r ⟨.int i, .int j, .int k, .int (max (max i j) k), rfl, ?_, q⟩
  have m2 : ∀ a b : Int, nuMax2 (.int a) (.int b) = some (.int (max a b)) := fun a b => by
    show ((some (decide (a < b))).map fun c => if c = true then V.int b else V.int a) = _
    by_cases h : a < b
    · simp [h]
      omega
    · simp [h]
      omega
  unfold nuMax3
  rw [m2]
  exact m2 _ _
theorem ix_tupK {X : Cx} {K : PySem.W.Frag} (hK : X.K = K := by rfl) : IxR X (rIxT K) := hK ▸ ix_tup
/-! ### the functions' spans -/
def endsOf (es : List (Int × Int)) (n : Int) : List Int := (es.drop 1).map (·.1) ++ [n]
def spansOf (es : List (Int × Int)) (n : Int) : List (Int × Int × Int) := (es.zip (endsOf es n)).map fun q => (q.1.1, q.2, q.1.2)
def SpanAt (H : Hp) (x : V) (r : Int × Int × Int) : Prop := ∃ a, x = .ref a ∧ H a = some (.tup [.int r.1, .int r.2.1, .int r.2.2])
theorem SpanAt.mono {H H' : Hp} {x : V} {r : Int × Int × Int} (h : SpanAt H x r) (e : Tx H H') : SpanAt H' x r := by
  obtain ⟨a, e1, e2⟩ := h
  exact ⟨a, e1, e _ _ e2⟩
def spSpans : Sp := fun vs H Q _ => ∃ (c e s : Addr) (exs ixs : List V) (es : List (Int × Int)) (is : List Ins), vs = [.ref c] ∧ CodeAt H c e s exs ixs es is ∧ CodeOk es is ∧
  ∀ p H' xs, Ex H H' → H' p = some (.lst xs) → Paired (SpanAt H') xs (spansOf es is.length) → Q (.ref p) H'
section
variable {P : Program} {w : World} {K : PySem.W.Frag} {mg : Str → Option Value} {base : Heap}
theorem sc_spans : FnScope ["code", "ends", "one", "end"] ["code"] (defScope s_spans) := ⟨rfl, rfl, rfl, by decide +kernel, rfl, by decide +kernel, by decide +kernel⟩
theorem ok_spans (D : Dd K mg "spans" s_spans ["code"]) (T : Tb K mg) : Dn P w K mg base L2.CX0 1 "spans" spSpans := by
  refine D.ok sc_spans (fun vs H Q E h => by obtain ⟨c, e, s, exs, ixs, es, is, rfl, _⟩ := h; rfl) (fun f cdv A outer s H vs Q E hr h => ?_)
  obtain ⟨c, e, s, exs, ixs, es, is, rfl, hC, hok, q⟩ := h
  -- ["code", "ends", "one", "end"]
  refine ⟨_, (pss_cons (sset 1 sc_spans.nd (pe_op op_cat (pe_lc (own := [("one", 2)]) (g := (gName 2)) (tt := tYes) rfl sc_spans.nd (pi_tup (pe_slice sl_tup (pe_ix ix_tup (pv 0) pe_int (fun _ _ => rfl)) (po_some pe_int) po_none)) (blkOk_by (N := ["code", "ends", "one", "end"]) (sc := defScope s_spans) (by decide +kernel)) (fun _ _ _ _ _ => (gnm 2 sc_spans.nd)) (fun _ _ _ _ _ => pts_nil) (fun _ _ _ _ _ => (pe_ix (ix_tupK (K := K)) (pv 2) pe_int (fun _ _ => rfl)))) (pe_lst (pa_cons (pcb call_len_seq T.len (pa_cons (pe_ix ix_tup (pv 0) pe_int (fun _ _ => rfl)) pa_nil)) pa_nil))))
    (pss_one (ps_ret (pe_lc (own := [("one", 2), ("end", 3)]) (g := (gTup K 2 (gCons (gName 2) (gCons (gName 3) gNil)))) (tt := tYes) rfl sc_spans.nd (pi_zipM (by rfl) T.zip (pa_cons (pe_ix ix_tup (pv 0) pe_int (fun _ _ => rfl)) (pa_cons (pv 1) pa_nil))) (blkOk_by (N := ["code", "ends", "one", "end"]) (sc := defScope s_spans) (by decide +kernel)) (fun _ _ _ _ _ => (pg_tup rfl (pgs_cons (gnm 2 sc_spans.nd) (pgs_cons (gnm 3 sc_spans.nd) pgs_nil)))) (fun _ _ _ _ _ => pts_nil) (fun _ _ _ _ _ => (pe_tup (pa_cons (pe_ix (ix_tupK (K := K)) (pv 2) pe_int (fun _ _ => rfl)) (pa_cons (pv 3) (pa_cons (pe_ix (ix_tupK (K := K)) (pv 2) pe_int (fun _ _ => rfl)) pa_nil))))))))), ?_⟩
  obtain ⟨m0, r0, he0⟩ := hok.hd
  have hle := hC.es.length
  obtain ⟨x0, xr, hx0⟩ : ∃ x0 xr, exs = x0 :: xr := by
    cases exs with
    | nil =>
      rw [he0] at hle
      cases hle
    | cons x xr => exact ⟨x, xr, rfl⟩
  subst hx0
  refine ⟨_, rfl, c, _, _, _, rfl, rfl, SqT.of hC.c, rfl, 1, rfl, e, _, rfl, SqT.of hC.e, cut1_ne, ?_⟩
  rw [cut1]
  intro p1 hp_p1
  generalize hG_p1 : upd _ p1 _ = H1
  obtain ⟨x1, g1⟩ := nw hp_p1 hG_p1
  subst he0
  have hPr : Paired (EntAt H1) xr r0 := by
    have := hC.es.mono (Tx.of x1)
    cases this with
    | cons h1 h2 => exact h2
  have hl300 := hok.elen
  rw [List.length_cons] at hl300
  have hxr := hPr.length
  refine ⟨p1, rfl, ⟨_, SqT.of g1⟩, fun D1 hD1 => ?_⟩
  refine lc_tup (K := K) (a := p1) (xs := xr) (fun i H' => H' D1 = some (.lst ((r0.take i).map fun q => V.int q.1)) ∧ Kp D1 H1 H') ⟨by rw [upd_same]; rfl, Kp.put⟩ ?_ ?_ ?_
  · rintro j H' _ ⟨_, kp⟩
    exact SqT.of (kp.ex hD1 _ _ g1)
  · rintro j y H' hy ⟨hacc, kp⟩
    obtain ⟨en, hen, a, rfl, ha⟩ := Paired.at_ hPr hy
    have hj : j < xr.length := (List.getElem?_eq_some_iff.mp hy).1
    refine ⟨rfl, _, rfl, a, _, _, _, rfl, rfl, SqT.of (kp.ex hD1 _ _ ha), rfl, _, hacc, sz' (by rw [List.length_map, List.length_take]; omega), ?_, kp.trans Kp.put⟩
    rw [upd_same, take_snoc hen, List.map_append]
    rfl
  · rintro H2 ⟨hacc, kp⟩
    rw [List.take_of_length_le (Nat.le_of_eq hxr.symm)] at hacc
    have x2 := x1.trans (kp.ex hD1)
    have C2 := hC.mono (Tx.of x2)
    have hls := hC.is.length
    refine ⟨_, rfl, c, _, _, _, rfl, rfl, SqT.of C2.c, rfl, s, _, rfl, .inr (SqT.of C2.s), z1, ?_⟩
    intro p3 hp_p3
    generalize hG_p3 : upd _ p3 _ = H3
    obtain ⟨x3, g3⟩ := nw hp_p3 hG_p3
    refine ⟨D1, p3, _, _, rfl, rfl, x3 _ _ hacc, g3, sz (by rw [List.length_map, List.length_singleton]; omega), ?_⟩
    intro p4 hp_p4
    generalize hG_p4 : upd _ p4 _ = H4
    obtain ⟨x4, g4⟩ := nw hp_p4 hG_p4
    have g4' : H4 p4 = some (.lst ((endsOf ((0, m0) :: r0) is.length).map V.int)) := g4.trans (congrArg (fun l => some (HO.lst l)) (by
      show _ = ((r0.map (·.1)) ++ [(is.length : Int)]).map V.int
      rw [List.map_append, List.map_map, hls]
      rfl))
    have x04 := x2.trans (x3.trans x4)
    have C4 := hC.mono (Tx.of x04)
    have hel : (endsOf ((0, m0) :: r0) (is.length : Int)).length = r0.length + 1 := by
      show ((r0.map (·.1)) ++ [(is.length : Int)]).length = _
      rw [List.length_append, List.length_map, List.length_singleton]
    refine ⟨_, rfl, c, _, _, _, rfl, rfl, SqT.of C4.c, rfl, _, rfl, e, p4, _, _, rfl, SqT.of C4.e, SqL.of g4', fun D2 hD2 => ?_⟩
    refine lc_it (walk_zipM (K := K) (a := e) (b := p4) (xs := x0 :: xr) (ys := (endsOf ((0, m0) :: r0) is.length).map V.int) (n := r0.length + 1) (by rw [List.length_cons, hxr]) (by rw [List.length_map, hel])) (fun i H' => ∃ acc : List V, H' D2 = some (.lst acc) ∧ acc.length ≤ i ∧ Kp D2 H4 H' ∧ Paired (SpanAt H') acc ((spansOf ((0, m0) :: r0) is.length).take i)) ⟨[], upd_same, Nat.le_refl _, Kp.put, by simpa using Paired.nil⟩ ?_ ?_ ?_
    · rintro i H' _ ⟨acc, _, _, kp2, _⟩
      exact ⟨SqT.of (kp2.ex hD2 _ _ C4.e), SqL.of (kp2.ex hD2 _ _ g4')⟩
    · rintro i y H5 H6 hi ⟨acc, hacc2, hal, kp2, hpa⟩ ⟨Tp, y1, y2, rfl, hTp, rfl, hy1, hy2⟩
      obtain ⟨en, hen, a, rfl, ha⟩ := Paired.at_ C4.es hy1
      obtain ⟨n2, hn2, rfl⟩ : ∃ n2, (endsOf ((0, m0) :: r0) (is.length : Int))[i]? = some n2 ∧ y2 = V.int n2 := by
        have hy2 : ((endsOf ((0, m0) :: r0) (is.length : Int)).map V.int)[i]? = some y2 := hy2
        rw [List.getElem?_map] at hy2
        cases hz : (endsOf ((0, m0) :: r0) (is.length : Int))[i]? with
        | none => rw [hz] at hy2; cases hy2
        | some n1 => rw [hz] at hy2; cases hy2; exact ⟨n1, rfl, rfl⟩
      have hsp : (spansOf ((0, m0) :: r0) (is.length : Int))[i]? = some (en.1, n2, en.2) := by
        unfold spansOf
        rw [List.getElem?_map, List.getElem?_zip_eq_some (z := (en, n2)) |>.mpr ⟨hen, hn2⟩]
        rfl
      have x6 : Ex H5 (upd H5 Tp (.tup [.ref a, .int n2])) := Ex.new hTp
      have g6 : (upd H5 Tp (.tup [.ref a, .int n2])) Tp = some (.tup [.ref a, .int n2]) := upd_same
      generalize upd H5 Tp (.tup [.ref a, .int n2]) = H6 at x6 g6
      have x46 := (kp2.ex hD2).trans x6
      have haE : H4 a = some (.tup [.int en.1, .int en.2]) := ha
      refine ⟨Tp, _, rfl, SqT.of g6, rfl, _, _, rfl, _, _, rfl, rfl, rfl, _, rfl, a, _, _, _, rfl, rfl, SqT.of (x46 _ _ haE), rfl, _, rfl, _, rfl, a, _, _, _, rfl, rfl, SqT.of (x46 _ _ haE), rfl, z3, ?_⟩
      intro a5 hp_a5
      generalize hG_a5 : upd _ a5 _ = H7
      obtain ⟨x7, g7⟩ := nw hp_a5 hG_a5
      refine ⟨acc, x7 _ _ (x6 _ _ hacc2), sz' (by omega), acc ++ [.ref a5], upd_same, by rw [List.length_append, List.length_singleton]; omega, (kp2.trans (Kp.of (x6.trans x7))).trans Kp.put, ?_⟩
      have tt : Tx H7 (upd H7 D2 (.lst (acc ++ [.ref a5]))) := Kp.put.tx (x7 _ _ (x6 _ _ hacc2))
      rw [take_snoc hsp]
      exact Paired.snoc ⟨a5, rfl, tt _ _ g7⟩ (L2.Paired.mapP hpa fun _ _ h => (h.mono (Tx.of (x6.trans x7))).mono tt)
    · rintro H5 ⟨acc, hacc2, hal, kp2, hpa⟩
      rw [List.take_of_length_le (by
        unfold spansOf
        rw [List.length_map, List.length_zip, hel, List.length_cons]
        omega)] at hpa
      exact q D2 H5 acc (x04.trans (kp2.ex hD2)) hacc2 hpa
end

end M10
set_option Elab.async false
set_option linter.all false
set_option maxRecDepth 100000
set_option maxHeartbeats 4000000
namespace M10
open PySem PySem.Spec PyProof.Rows L2 Evl
theorem spans_ok {es : List (Int × Int)} {is : List Ins} (h : CodeOk es is) {t : Int × Int × Int} (ht : t ∈ spansOf es is.length) : 0 ≤ t.1 ∧ t.2.1 ≤ (is.length : Int) := by
  unfold spansOf at ht
  obtain ⟨q, hq, rfl⟩ := List.mem_map.mp ht
  obtain ⟨h1, h2⟩ := List.of_mem_zip hq
  refine ⟨(h.ent _ h1).1, ?_⟩
  unfold endsOf at h2
  rcases List.mem_append.mp h2 with h2 | h2
  · obtain ⟨r, hr, e⟩ := List.mem_map.mp h2
    have := (h.ent r (List.mem_of_mem_drop hr)).2.1
    show q.2 ≤ (is.length : Int)
    omega
  · rw [List.mem_singleton] at h2
    show q.2 ≤ (is.length : Int)
    omega
abbrev HA (es : List (Int × Int)) (is : List Ins) : Option Fd := hall es is (spansOf es is.length) []
def spHO (CU : Addr) : Sp := fun vs H Q E => ∃ (c e s : Addr) (exs ixs : List V) (es : List (Int × Int)) (is : List Ins), vs = [.ref c] ∧ CodeAt H c e s exs ixs es is ∧ CodeOk es is ∧
  (HA es is = none → ∀ H', Ex H H' → E (.ref CU) none H') ∧ (∀ f, HA es is = some f → ∀ d H', Ex H H' → H d = none → H' d = some (.dK (dK f)) → f.length ≤ is.length → Q (.ref d) H')
section
variable {P : Program} {w : World} {K : PySem.W.Frag} {mg : Str → Option Value} {base : Heap}
theorem sc_heights_of : FnScope ["code", "found", "begin", "end", "lates"] ["code"] (defScope s_heights_of) := ⟨rfl, rfl, rfl, by decide +kernel, rfl, by decide +kernel, by decide +kernel⟩
theorem ok_heights_of {CU : Addr} (D : Dd K mg "heights_of" s_heights_of ["code"]) (T : Tb K mg) (c_spans : Dn P w K mg base L2.CX0 1 "spans" spSpans) (c_put_heights : Dn P w K mg base (L2.CX P w) 3 "put_heights" (spPutH CU)) : Dn P w K mg base (L2.CX P w) 4 "heights_of" (spHO CU) := by
  refine D.okX sc_heights_of (fun vs H Q E h => by obtain ⟨c, e, s, exs, ixs, es, is, rfl, _⟩ := h; rfl) (fun f cdv A outer s H vs Q E hr h => ?_)
  obtain ⟨c, e, s, exs, ixs, es, is, rfl, hC, hok, qE, q⟩ := h
  refine ⟨_, (pss_cons (sset 1 sc_heights_of.nd pe_dnewK)
    (pss_cons (ps_for (passes_of rfl) rfl (pi_list (pe_c0 c_spans hr (pa_cons (pv 0) pa_nil))) (pg_tup rfl (pgs_cons (gnm 2 sc_heights_of.nd) (pgs_cons (gnm 3 sc_heights_of.nd) (pgs_cons (gnm 4 sc_heights_of.nd) pgs_nil)))) (pss_one (ps_expr (pe_cx c_put_heights hr pX (pa_cons (pv 0) (pa_cons (pv 2) (pa_cons (pv 3) (pa_cons (pv 4) (pa_cons (pv 1) pa_nil)))))))))
    (pss_one (ps_ret (pv 1))))), ?_⟩
  intro d hp_d
  generalize hG_d : upd _ d _ = H1
  obtain ⟨x1, g1⟩ := nw hp_d hG_d
  refine ⟨_, rfl, c, e, s, exs, ixs, es, is, rfl, hC.mono (Tx.of x1), hok, fun p H2 xs x2 hp hP => ⟨p, rfl, ⟨_, SqL.of hp⟩, ?_⟩⟩
  have x02 := x1.trans x2
  have d0 : H d = none := hp_d
  have hpd : p ≠ d := fun z => by
    rw [z, x2 _ _ g1] at hp
    cases hp
  have un0 : unv is [] ≤ is.length := unv_le is []
  refine for_list (K := K) (a := p) (xs := xs) (fun i σ' H' => ∃ (v2 v3 v4 : Option V) (f : Fd), σ' = [some (.ref c), some (.ref d), v2, v3, v4] ∧ Kp d H2 H' ∧ H' d = some (.dK (dK f)) ∧ f.length + unv is f ≤ is.length ∧ hall es is ((spansOf es is.length).drop i) f = HA es is)
    ⟨_, _, _, [], rfl, Kp.refl _ _, x2 _ _ g1, by show 0 + unv is [] ≤ is.length; omega, rfl⟩ ?_ ?_ ?_
  · rintro i _ H' _ ⟨_, _, _, _, _, k, _⟩
    exact SqL.of (k _ _ hpd hp)
  · rintro i y _ H3 hy ⟨v2, v3, v4, f, rfl, k, hd, hfl, hh⟩
    obtain ⟨⟨b, e1, l⟩, ht, a, rfl, ha⟩ := Paired.at_ hP hy
    obtain ⟨t1, t2⟩ := spans_ok hok (List.mem_of_getElem? ht)
    have tx := k.txd (x2 _ _ g1)
    have hdrop : (spansOf es is.length).drop i = (b, e1, l) :: (spansOf es is.length).drop (i + 1) := List.drop_eq_getElem?_toList_append.trans (by rw [ht]; rfl)
    rw [hdrop] at hh
    obtain ⟨res, hres⟩ := hwalk_tot (es := es) (is := is) (b := b) (e := e1) (l := l) t1 (is.length + 1) [(b, 0)] f (by have := unv_le is f; omega)
    have Ek : ∀ H', Kp d H3 H' → Ex H H' := fun H' k2 bb o hb => (k.trans k2) _ _ (ne_of_none hb d0) (x02 _ _ hb)
    refine ⟨a, _, rfl, SqT.of (tx _ _ ha), rfl, _, _, rfl, _, _, rfl, _, _, rfl, rfl, ?_⟩
    refine ⟨_, rfl, _, rfl, _, rfl, _, rfl, _, rfl, c, d, e, s, b, e1, l, exs, ixs, es, is, f, is.length + 1, res, rfl, (hC.mono (Tx.of x02)).mono tx, hok, t1, t2, hd, hfl, hres, fun z H4 k4 => ?_, fun f' z H4 k4 hd4 hfl4 => ?_⟩
    · subst z
      refine qE ?_ _ (Ek _ k4)
      rw [← hh]
      simp only [hall, hres]
    · subst z
      refine ⟨_, _, _, f', rfl, k.trans k4, hd4, hfl4, ?_⟩
      rw [← hh]
      simp only [hall, hres]
  · rintro _ H3 ⟨v2, v3, v4, f, rfl, k, hd, hfl, hh⟩
    rw [List.drop_of_length_le (Nat.le_of_eq hP.length.symm)] at hh
    exact ⟨_, rfl, q f hh.symm d H3 (fun bb o hb => k _ _ (ne_of_none hb d0) (x02 _ _ hb)) d0 hd (by omega)⟩
end
def htsOf (f : Fd) (n : Nat) : List V := (List.range n).map fun k : Nat => match fget f (k : Int) with
  | some h => .int h
  | none => .non
def spHts (CU : Addr) (Pt : List Addr) : Sp := fun vs H Q E => ∃ (c e s : Addr) (exs ixs : List V) (es : List (Int × Int)) (is : List Ins), vs = [.ref c] ∧ CodeAt H c e s exs ixs es is ∧ CodeOk es is ∧ TGs H Pt ∧
  (HA es is = none → ∀ H', TbX Pt H H' → E (.ref CU) none H') ∧ (∀ f, HA es is = some f → ∀ p H', TbX Pt H H' → H' p = some (.tup (htsOf f is.length)) → Q (.ref p) H')
def dpOf (es : List (Int × Int)) (is : List Ins) : Fd → Int → Int
  | [], m => m
  | p :: f, m => dpOf es is f (match is[p.1.toNat]? with
    | none => m
    | some i => max (max m (p.2 - ndT es i + ndP i)) p.2)
def spDeep (CU : Addr) (Pt : List Addr) : Sp := fun vs H Q E => ∃ (c e s : Addr) (exs ixs : List V) (es : List (Int × Int)) (is : List Ins), vs = [.ref c] ∧ CodeAt H c e s exs ixs es is ∧ CodeOk es is ∧ TGs H Pt ∧
  (HA es is = none → ∀ H', TbX Pt H H' → E (.ref CU) none H') ∧ (∀ f, HA es is = some f → ∀ H', TbX Pt H H' → Q (.int (dpOf es is f 0)) H')

end M10
set_option Elab.async false
set_option linter.all false
set_option maxRecDepth 100000
set_option maxHeartbeats 4000000
namespace M10
open PySem PySem.Spec PyProof.Rows L2 Evl
theorem hget (f : Fd) (k : Int) : ((fget f k).map V.int).getD .non = (match fget f k with | some h => V.int h | none => .non) := by cases fget f k <;> rfl
/-- what stands in a walk's dict -/
def FO (is : List Ins) (f : Fd) : Prop := ∀ p ∈ f, 0 ≤ p.1 ∧ p.1.toNat < is.length ∧ fget f p.1 = some p.2
theorem FO.app {is : List Ins} {f : Fd} (h : FO is f) {a b : Int} (h0 : 0 ≤ a) (h1 : a.toNat < is.length) (hn : fget f a = none) : FO is (f ++ [(a, b)]) := fun p hp => by
  rcases List.mem_append.mp hp with hp | hp
  · obtain ⟨q1, q2, q3⟩ := h p hp
    refine ⟨q1, q2, ?_⟩
    rw [fget_app, q3]
  · rw [List.mem_singleton.mp hp]
    refine ⟨h0, h1, ?_⟩
    rw [fget_app, hn]
    exact if_pos rfl
theorem hstep_FO {es : List (Int × Int)} {is : List Ins} {b e l : Int} {r : Int × Int} {f m f' m' : Fd} (hb : 0 ≤ b) (ho : FO is f) (h : hstep es is b e l r f m = some (f', m')) : FO is f' := by
  unfold hstep at h
  split at h
  · rename_i hbe
    split at h
    · split at h
      · cases h
        exact ho
      · cases h
    · rename_i hn
      split at h
      · cases h
      · rename_i i hi
        split at h
        · cases h
          exact ho.app (by omega) (List.getElem?_eq_some_iff.mp hi).1 hn
        · cases h
  · cases h
theorem hpass_FO {es : List (Int × Int)} {is : List Ins} {b e l : Int} (hb : 0 ≤ b) : ∀ {rs f m f' m' : Fd}, FO is f → hpass es is b e l rs f m = some (f', m') → FO is f'
  | [], f, m, f', m', ho, h => by
    cases h
    exact ho
  | r :: rs, f, m, f', m', ho, h => by
    unfold hpass at h
    split at h
    · cases h
    · rename_i f1 m1 h1
      exact hpass_FO hb (hstep_FO hb ho h1) h
theorem hwalk_FO {es : List (Int × Int)} {is : List Ins} {b e l : Int} (hb : 0 ≤ b) : ∀ {n : Nat} {rs f f' : Fd}, FO is f → hwalk es is b e l n rs f = some (some f') → FO is f'
  | n, [], f, f', ho, h => by
    rw [hwalk_nil] at h
    cases h
    exact ho
  | 0, _ :: _, f, f', ho, h => by cases h
  | n + 1, r :: rs, f, f', ho, h => by
    unfold hwalk at h
    split at h
    · cases h
    · rename_i f1 m1 h1
      exact hwalk_FO hb (hpass_FO hb ho h1) h
theorem hall_FO {es : List (Int × Int)} {is : List Ins} : ∀ {ts : List (Int × Int × Int)} {f f' : Fd}, (∀ t ∈ ts, 0 ≤ t.1) → FO is f → hall es is ts f = some f' → FO is f'
  | [], f, f', _, ho, h => by
    cases h
    exact ho
  | (b, e, l) :: ts, f, f', hb, ho, h => by
    unfold hall at h
    split at h
    · rename_i f1 h1
      exact hall_FO (fun t ht => hb t (List.mem_cons_of_mem _ ht)) (hwalk_FO (hb _ List.mem_cons_self) ho h1) h
    · cases h
theorem HA_FO {es : List (Int × Int)} {is : List Ins} {f : Fd} (hok : CodeOk es is) (h : HA es is = some f) : FO is f := hall_FO (fun t ht => (spans_ok hok ht).1) (fun p hp => absurd hp List.not_mem_nil) h
section
variable {P : Program} {w : World} {K : PySem.W.Frag} {mg : Str → Option Value} {base : Heap}
theorem sc_heights : FnScope ["code", "found", "at"] ["code"] (defScope s_heights) := ⟨rfl, rfl, rfl, by decide +kernel, rfl, by decide +kernel, by decide +kernel⟩
theorem ok_heights {CU : Addr} {Pt : List Addr} (D : Dd K mg "heights" s_heights ["code"]) (T : Tb K mg) (c_need_code : Dn P w K mg base L2.CX0 5 "need_code" (spNCode Pt)) (c_heights_of : Dn P w K mg base (L2.CX P w) 4 "heights_of" (spHO CU)) : Dn P w K mg base (L2.CX P w) 6 "heights" (spHts CU Pt) := by
  refine D.okX sc_heights (fun vs H Q E h => by obtain ⟨c, e, s, exs, ixs, es, is, rfl, _⟩ := h; rfl) (fun f cdv A outer s H vs Q E hr h => ?_)
  have hu : (A.deeper (envOfC "heights" (defScope s_heights) s.heap.objs.size f cdv)).units + 1 < cLine := by
    have := hr.un
    omega
  obtain ⟨c, e, s, exs, ixs, es, is, rfl, hC, hok, hT, qE, q⟩ := h
  refine ⟨_, (pss_cons (ps_expr (pe_c0 c_need_code hr (pa_cons (pv 0) pa_nil)))
    (pss_cons (sset 1 sc_heights.nd (pe_cx c_heights_of hr pX (pa_cons (pv 0) pa_nil)))
    (pss_one (ps_ret (pct call_tuple_of T.tuple (pa_cons (pe_lc (own := [("at", 2)]) (g := (gName 2)) (tt := tYes) rfl sc_heights.nd (pi_range1 rfl T.range (pa_cons (pcb call_len_seq T.len (pa_cons (pe_ix ix_tup (pv 0) pe_int (fun _ _ => rfl)) pa_nil)) pa_nil)) (blkOk_by (N := ["code", "found", "at"]) (sc := defScope s_heights) (by decide +kernel)) (fun _ _ _ _ _ => (gnm 2 sc_heights.nd)) (fun _ _ _ _ _ => pts_nil) (fun _ _ _ _ _ => (pe_dget2 hu (pv 1) (pv 2) pe_non ⟨rfl, rfl, rfl, rfl⟩))) pa_nil)))))), ?_⟩
  refine ⟨_, rfl, c, e, s, exs, ixs, es, is, rfl, hC, hok, hT, fun H1 X1 => ?_⟩
  have C1 := hC.mono (X1.tx hT)
  refine ⟨_, rfl, c, e, s, exs, ixs, es, is, rfl, C1, hok, fun z H2 x2 => qE z _ (X1.ex x2), fun fd hfd d H2 x2 d0 hd hfl => ?_⟩
  have C2 := C1.mono (Tx.of x2)
  have hls := C2.is.length
  have hil := hok.ilen
  refine ⟨_, rfl, c, _, _, _, rfl, rfl, SqT.of C2.c, rfl, s, _, rfl, .inr (SqT.of C2.s), _, rfl, by omega, by omega, fun DD hD => ?_⟩
  have nd : d ≠ DD := ne_of_none hd hD
  refine lc_range (lo := 0) (n := ((ixs.length : Nat) : Int).toNat) (fun i H' => H' DD = some (.lst (htsOf fd i)) ∧ Kp DD H2 H') ⟨upd_same, Kp.put⟩ ?_ ?_
  · rintro i H3 hi ⟨hacc, kp⟩
    have hd3 := kp.ex hD _ _ hd
    refine ⟨rfl, _, rfl, d, rfl, .inl ⟨_, .inl hd3⟩, _, rfl, _, DGet.k (k := .inl (0 + (i : Int))) hd3, ?_⟩
    rw [dK_get]
    refine ⟨_, hacc, sz' (by unfold htsOf; rw [List.length_map, List.length_range]; omega), ?_, kp.trans Kp.put⟩
    rw [upd_same]
    congr 2
    show _ = (List.range (i + 1)).map _
    rw [List.range_succ, List.map_append, Int.zero_add]
    congr 1
    exact congrArg (fun v => [v]) (hget fd (i : Int))
  · rintro H3 ⟨hacc, kp⟩
    refine ⟨DD, _, rfl, .inl ⟨SqL.of hacc, fun p hp => ?_⟩⟩
    have e1 : ((ixs.length : Nat) : Int).toNat = is.length := by omega
    rw [e1]
    exact q fd hfd p _ ((X1.ex x2).ex ((kp.ex hD).trans (Ex.new hp))) upd_same
theorem sc_deepest : FnScope ["code", "found", "most", "at", "takes", "puts"] ["code"] (defScope s_deepest) := ⟨rfl, rfl, rfl, by decide +kernel, rfl, by decide +kernel, by decide +kernel⟩
theorem ok_deepest {CU : Addr} {Pt : List Addr} (D : Dd K mg "deepest" s_deepest ["code"]) (T : Tb K mg) (c_need_code : Dn P w K mg base L2.CX0 5 "need_code" (spNCode Pt)) (c_heights_of : Dn P w K mg base (L2.CX P w) 4 "heights_of" (spHO CU)) (c_needs : Dn P w K mg base L2.CX0 1 "needs" spNeeds) :
    Dn P w K mg base (L2.CX P w) 6 "deepest" (spDeep CU Pt) := by
  refine D.okX sc_deepest (fun vs H Q E h => by obtain ⟨c, e, s, exs, ixs, es, is, rfl, _⟩ := h; rfl) (fun f cdv A outer s H vs Q E hr h => ?_)
  have hu : (A.deeper (envOfC "deepest" (defScope s_deepest) s.heap.objs.size f cdv)).units + 1 < cLine := by
    have := hr.un
    omega
  obtain ⟨c, e, s, exs, ixs, es, is, rfl, hC, hok, hT, qE, q⟩ := h
  -- ["code", "found", "most", "at", "takes", "puts"]
  refine ⟨_, (pss_cons (ps_expr (pe_c0 c_need_code hr (pa_cons (pv 0) pa_nil)))
    (pss_cons (ps_par (i := 1) (j := 2) (by rfl) sc_deepest.nd rfl rfl (by decide) rfl rfl (pa_cons (pe_cx c_heights_of hr pX (pa_cons (pv 0) pa_nil)) (pa_cons pe_int pa_nil)) (by rfl))
    (pss_cons (ps_lock (ps_for (passes_of rfl) rfl (pi_keys (pv 1)) (gnm 3 sc_deepest.nd) (pss_cons (ps_asg (pe_c0 c_needs hr (pa_cons (pe_ix ix_tup (pe_ix ix_tup (pv 0) pe_int (fun _ _ => rfl)) (pv 3) (fun _ _ => rfl)) (pa_cons (pe_ix ix_tup (pv 0) pe_int (fun _ _ => rfl)) pa_nil))) (pg_tup rfl (pgs_cons (gnm 4 sc_deepest.nd) (pgs_cons (gnm 5 sc_deepest.nd) pgs_nil))))
    (pss_one (sset 2 sc_deepest.nd (pcb (cr_max3 rfl) T.max (pa_cons (pv 2) (pa_cons (pe_op op_add (pe_op op_sub (pe_dget hu (pv 1) (pv 3) (fun _ _ => rfl)) (pv 4)) (pv 5)) (pa_cons (pe_dget hu (pv 1) (pv 3) (fun _ _ => rfl)) pa_nil)))))))))
    (pss_one (ps_ret (pv 2)))))), ?_⟩
  refine ⟨_, rfl, c, e, s, exs, ixs, es, is, rfl, hC, hok, hT, fun H1 X1 => ?_⟩
  have C1 := hC.mono (X1.tx hT)
  refine ⟨_, rfl, c, e, s, exs, ixs, es, is, rfl, C1, hok, fun z H2 x2 => qE z _ (X1.ex x2), fun fd hfd d H2 x2 d0 hd hfl => ?_⟩
  refine ⟨_, _, rfl, ?_⟩
  refine ⟨d, _, hd, trivial, fun od => ?_⟩
  have hfz : (upd H2 d (.frz od (.dK (dK fd)))) d = some (.frz od (.dK (dK fd))) := upd_same
  have C2 := C1.mono (Tx.of x2)
  have C3 : CodeAt (upd H2 d (.frz od (.dK (dK fd)))) c e s exs ixs es is := C2.mono (fun a xs ha => by
    rw [upd_ne (fun z => by rw [z, hd] at ha; cases ha)]
    exact ha)
  have hback : ∀ H', Ex (upd H2 d (.frz od (.dK (dK fd)))) H' → Ex H1 (upd H' d (.dK (dK fd))) := fun H' x b o hb => by
    have nb : b ≠ d := ne_of_none hb d0
    rw [upd_ne nb]
    refine x _ _ ?_
    rw [upd_ne nb]
    exact x2 _ _ hb
  generalize (upd H2 d (.frz od (.dK (dK fd)))) = H3 at hfz C3 hback
  refine ⟨_, rfl, d, od, rfl, .inl ⟨_, hfz, ?_⟩⟩
  have hdl : (dK fd).length = fd.length := List.length_map ..
  refine for_it (walk_keys (d := d) (o := od) (kvs := dK fd)) (fun i σ' H' => ∃ (v3 v4 v5 : Option V) (mm : Int), σ' = [some (.ref c), some (.ref d), some (.int mm), v3, v4, v5] ∧ Ex H3 H' ∧ dpOf es is (fd.drop i) mm = dpOf es is fd 0) ⟨_, _, _, 0, rfl, Ex.refl _, rfl⟩ ?_ ?_ ?_
  · rintro i _ H' _ ⟨_, _, _, _, _, x, _⟩
    exact x _ _ hfz
  · rintro i y _ H4 _ hi ⟨v3, v4, v5, mm, rfl, x4, hm⟩ ⟨rfl, kk, vv, hkv, rfl⟩
    obtain ⟨p, hp, hkk⟩ : ∃ p, fd[i]? = some p ∧ (kk, vv) = (.inl p.1, .int p.2) := by
      rw [List.getElem?_map] at hkv
      cases hz : fd[i]? with
      | none => rw [hz] at hkv; cases hkv
      | some p => rw [hz] at hkv; cases hkv; exact ⟨p, rfl, rfl⟩
    cases hkk
    obtain ⟨p0, p1, p2⟩ := HA_FO hok hfd p (List.mem_of_getElem? hp)
    obtain ⟨ins, hins⟩ : ∃ ins, is[p.1.toNat]? = some ins := ⟨_, List.getElem?_eq_getElem p1⟩
    have hdrop : fd.drop i = p :: fd.drop (i + 1) := List.drop_eq_getElem?_toList_append.trans (by rw [hp]; rfl)
    rw [hdrop] at hm
    have C4 := C3.mono (Tx.of x4)
    obtain ⟨a2, hat2, ha2⟩ := C4.one p0 hins
    have hoki := hok.ins ins (List.mem_of_getElem? hins)
    refine ⟨_, rfl, c, _, _, _, rfl, rfl, SqT.of C4.c, rfl, _, rfl, s, _, _, _, rfl, rfl, SqT.of C4.s, hat2, _, rfl, c, _, _, _, rfl, rfl, SqT.of C4.c, rfl, a2, e, exs, es, ins, _, rfl, ha2, C4.e, C4.es, hoki, fun p8 H8 x8 g8 => ?_⟩
    refine ⟨p8, _, rfl, SqT.of g8, rfl, _, _, rfl, _, _, rfl, rfl, ?_⟩
    have h8 := x8 _ _ (x4 _ _ hfz)
    have hgt : valV (dK fd) (.inl p.1) = some (.int p.2) := by
      rw [dK_get, p2]
      rfl
    have hG : DGet H8 d (.int p.1) (some (.int p.2)) := .inl ⟨dK fd, .inl p.1, .inr ⟨od, h8⟩, rfl, hgt.symm⟩
    refine ⟨_, rfl, _, rfl, _, rfl, d, _, rfl, hG, _, rfl, _, _, rfl, rfl, _, rfl, _, _, rfl, rfl, _, rfl, _, rfl, d, _, rfl, hG, _, _, _, rfl, ?_⟩
    refine ⟨_, _, _, _, rfl, x4.trans x8, ?_⟩
    rw [← hm]
    show _ = dpOf es is (fd.drop (i + 1)) (match is[p.1.toNat]? with
      | none => mm
      | some i => max (max mm (p.2 - ndT es i + ndP i)) p.2)
    rw [hins]
  · rintro _ H4 ⟨v3, v4, v5, mm, rfl, x4, hm⟩
    rw [List.drop_of_length_le (Nat.le_of_eq hdl.symm)] at hm
    have hm' : mm = dpOf es is fd 0 := hm
    refine ⟨x4 _ _ hfz, _, rfl, ?_⟩
    rw [hm']
    exact q fd hfd _ (X1.ex (hback _ x4))
end

end M10
set_option Elab.async false
set_option linter.all false
set_option maxRecDepth 100000
set_option maxHeartbeats 4000000
namespace M10
open PySem PySem.Spec PyProof.Rows L2 Evl
theorem ends_at {es : List (Int × Int)} {n : Int} {i : Nat} (hi : i < es.length) : (endsOf es n)[i]? = some (match es[i + 1]? with | some q => q.1 | none => n) := by
  unfold endsOf
  by_cases h : i + 1 < es.length
  · rw [List.getElem?_append_left (by rw [List.length_map, List.length_drop]; omega), List.getElem?_map, List.getElem?_drop, Nat.add_comm 1 i, List.getElem?_eq_getElem h]
    rfl
  · rw [List.getElem?_append_right (by rw [List.length_map, List.length_drop]; omega), List.getElem?_eq_none (by omega : es.length ≤ i + 1), List.length_map, List.length_drop, show i - (es.length - 1) = 0 by omega]
    rfl
theorem spans_at {es : List (Int × Int)} {n : Int} {i : Nat} {en : Int × Int} (h : es[i]? = some en) : (spansOf es n)[i]? = some (en.1, (match es[i + 1]? with | some q => q.1 | none => n), en.2) := by
  have hi : i < es.length := (List.getElem?_eq_some_iff.mp h).1
  unfold spansOf
  rw [List.getElem?_map, List.getElem?_zip_eq_some (z := (en, (match es[i + 1]? with | some q => q.1 | none => n))) |>.mpr ⟨h, ends_at hi⟩]
  rfl
def rD (r : Int × Int) : PyData := .tuple [.int r.1, .int r.2]
theorem rD_dp {K : PySem.W.Frag} {H : Hp} : ∀ {xs : List V} {rs : Fd}, Paired (RowAt H) xs rs → DpAll K H xs (rs.map rD)
  | [], _, h => by
    cases h
    exact .nil
  | x :: xs, _, h => by
    cases h with
    | cons h1 h2 =>
      obtain ⟨a, rfl, ha⟩ := h1
      exact .cons (.tup (SqT.of ha) (.cons (.int _) (.cons (.int _) .nil))) (rD_dp h2)
theorem rD_lay : ∀ rs : Fd, PyData.canLayAll0 (rs.map rD) = true := by
  intro rs
  induction rs with
  | nil => rfl
  | cons r rs ih =>
    simp only [List.map_cons, PyData.canLayAll0]
    rw [ih]
    simp [rD, PyData.canLay0, PyData.canLayAll0]
theorem rD_dep : ∀ rs : Fd, PyData.depthAll (rs.map rD) ≤ 1 := by
  intro rs
  induction rs with
  | nil => simp [PyData.depthAll]
  | cons r rs ih =>
    have h1 : (rD r).depth = 1 := by simp [rD, PyData.depth, PyData.depthAll]
    simp only [List.map_cons, PyData.depthAll]
    omega
theorem rD_shaped (rs : Fd) : SeqAt.shaped (.list (rs.map rD)) = true := by
  have h1 := rD_dep rs
  have h2 : PyData.depth (.list (rs.map rD)) ≤ 64 := by
    simp only [PyData.depth]
    omega
  show (PyData.canLay0 (.list (rs.map rD)) && decide (PyData.depth (.list (rs.map rD)) ≤ 64)) = true
  rw [decide_eq_true h2, Bool.and_true]
  simp only [PyData.canLay0]
  exact rD_lay rs
theorem rD_nil (rs : Fd) : PyData.eqv (.list (rs.map rD)) (.list []) = rs.isEmpty := by
  cases rs with
  | nil => simp [PyData.eqv, PyData.eqvAll]
  | cons a b => simp [PyData.eqv, PyData.eqvAll]
theorem tt_key {t : (Bool → Hp → Prop) → Prop} {Qc : Bool → Hp → Prop} {b : Bool} {H : Hp} (h : ∀ Q' : Bool → Hp → Prop, (∀ H', Ex H H' → Q' b H') → t Q') (q : ∀ H', Ex H H' → Qc b H') : t Qc := h Qc q
theorem te_key {t : VK → Prop} {Qc : VK} {xs : List V} {H : Hp} (h : ∀ Q' : VK, (∀ p H', Ex H H' → H' p = some (.lst xs) → Q' (.ref p) H') → t Q') (q : ∀ p H', Ex H H' → H' p = some (.lst xs) → Qc (.ref p) H') : t Qc := h Qc q
abbrev dtk2 : List (Key × V) := [(.inr "plus", .int 2), (.inr "minus", .int 2), (.inr "times", .int 2), (.inr "less", .int 2), (.inr "zero", .int 1), (.inr "back", .int 1)]
theorem tk2_get {es : List (Int × Int)} {i : Ins} (h : i.isCT = false) : (valV (mergeK [] dtk2) (.inr i.tag)).getD (.int 0) = .int (ndT es i) := by
  cases i with
  | op k => cases k <;> rfl
  | call j => cases h
  | tail j => cases h
  | _ => rfl
theorem tk2_int (i : Ins) : ∃ n : Int, (valV (mergeK [] dtk2) (.inr i.tag)).getD (.int 0) = .int n := by
  cases i with
  | op k => cases k <;> exact ⟨_, rfl⟩
  | _ => exact ⟨_, rfl⟩
def Ins.isBT : Ins → Bool
  | .back => true
  | .tail _ => true
  | _ => false
theorem tagBTb (i : Ins) : inV (.str i.tag) [.str "back", .str "tail"] = i.isBT := by
  cases i with
  | op k => cases k <;> decide +kernel
  | _ => simp only [Ins.tag, Ins.isBT] <;> decide +kernel
def Ins.put : Ins → Bool
  | .zero _ => false
  | .jump _ => false
  | .back => false
  | .tail _ => false
  | _ => true
theorem tagPut (i : Ins) : inV (.str i.tag) [.str "zero", .str "jump", .str "back", .str "tail"] = !i.put := by
  cases i with
  | op k => cases k <;> decide +kernel
  | _ => simp only [Ins.tag, Ins.put] <;> decide +kernel
theorem ndP_put (i : Ins) : ndP i = if i.put = true then 1 else 0 := by cases i <;> rfl
theorem sndT_BT {es : List (Int × Int)} {l h : Int} {i : Ins} (hb : i.isBT = true) : sndT es l h i = decide (ndT es i = h) := by
  cases i <;> first | rfl | cases hb
theorem sndT_no {es : List (Int × Int)} {l h : Int} {i : Ins} (hb : i.isBT = false) (ha : ¬ ∃ k, i = .arg k) : sndT es l h i = true := by
  cases i with
  | arg k => exact absurd ⟨k, rfl⟩ ha
  | back => cases hb
  | tail j => cases hb
  | _ => rfl
theorem nx_one {ins : Ins} {at_ : Int} (hJ : ¬ ∃ n, ins = .jump n) (hZ : ¬ ∃ n, ins = .zero n) (hb : ins.isBT = false) : decide (V.str ins.tag = V.str "jump") = false ∧ decide (V.str ins.tag = V.str "zero") = false ∧ nxt ins at_ = [at_ + 1] := by
  cases ins with
  | jump n => exact absurd ⟨n, rfl⟩ hJ
  | zero n => exact absurd ⟨n, rfl⟩ hZ
  | back => cases hb
  | tail j => cases hb
  | op k => exact ⟨by cases k <;> decide +kernel, by cases k <;> decide +kernel, rfl⟩
  | _ => exact ⟨sne (by simp only [Ins.tag] <;> decide +kernel), sne (by simp only [Ins.tag] <;> decide +kernel), rfl⟩
def spLH : Sp := fun vs H Q _ => ∃ (c e s : Addr) (exs ixs : List V) (es : List (Int × Int)) (is : List Ins), vs = [.ref c] ∧ CodeAt H c e s exs ixs es is ∧ CodeOk es is ∧
  (HA es is = none → ∀ H', Ex H H' → Q .non H') ∧ (∀ f, HA es is = some f → ∀ d H', Ex H H' → H' d = some (.dK (dK f)) → f.length ≤ is.length → Q (.ref d) H')
section
variable {P : Program} {w : World} {K : PySem.W.Frag} {mg : Str → Option Value} {base : Heap}
theorem sc_law_heights : FnScope ["_law_code_here", "_law_entries", "_law_some", "_law_found", "_law_k", "_law_begin", "_law_lates_here", "_law_end", "_law_walk", "_law_more", "_law_at", "_law_high", "_law_one", "_law_takes", "_law_rest", "_law_nexts", "_law_there"] ["_law_code_here"] (defScope s_law_heights) := ⟨rfl, rfl, rfl, by decide +kernel, rfl, by decide +kernel, by decide +kernel⟩
theorem ok_l_heights (D : Dd K mg "_law_heights" s_law_heights ["_law_code_here"]) (T : Tb K mg) : Dn P w K mg base L2.CX0 1 "_law_heights" spLH := by
  refine D.ok sc_law_heights (fun vs H Q E h => by obtain ⟨c, e, s, exs, ixs, es, is, rfl, _⟩ := h; rfl) (fun f cdv A outer s H vs Q E hr h => ?_)
  have hu : (A.deeper (envOfC "_law_heights" (defScope s_law_heights) s.heap.objs.size f cdv)).units + 1 < cLine := by
    have := hr.un
    omega
  obtain ⟨c, e, s, exs, ixs, es, is, rfl, hC, hok, qN, q⟩ := h
  -- ["_law_code_here", "_law_entries", "_law_some", "_law_found", "_law_k", "_law_begin", "_law_lates_here", "_law_end", "_law_walk", "_law_more", "_law_at", "_law_high", "_law_one", "_law_takes", "_law_rest", "_law_nexts", "_law_there"]
  refine ⟨_, (pss_cons (ps_asg (pv 0) (pg_tup rfl (pgs_cons (gnm 1 sc_law_heights.nd) (pgs_cons (gnm 2 sc_law_heights.nd) pgs_nil))))
    (pss_cons (sset 3 sc_law_heights.nd pe_dnewK)
    (pss_cons (ps_for PassesOwn.never rfl (pi_range1 rfl T.range (pa_cons (pcb call_len_seq T.len (pa_cons (pv 1) pa_nil)) pa_nil)) (gnm 4 sc_law_heights.nd) (pss_cons (ps_asg (pe_ix ix_tup (pv 1) (pv 4) (fun _ _ => rfl)) (pg_tup rfl (pgs_cons (gnm 5 sc_law_heights.nd) (pgs_cons (gnm 6 sc_law_heights.nd) pgs_nil))))
    (pss_cons (sset 7 sc_law_heights.nd (pe_ifExp (pt_cmpR op_lt (pe_op op_add (pv 4) pe_int) (pcb call_len_seq T.len (pa_cons (pv 1) pa_nil)) (nomark _)) (pe_ix ix_tup (pe_ix ix_tup (pv 1) (pe_op op_add (pv 4) pe_int) (fun _ _ => rfl)) pe_int (fun _ _ => rfl)) (pcb call_len_seq T.len (pa_cons (pv 2) pa_nil))))
    (pss_cons (sset 8 sc_law_heights.nd (pe_lst (pa_cons (pe_tup (pa_cons (pv 5) (pa_cons pe_int pa_nil))) pa_nil)))
    (pss_one (ps_while PassesOwn.never (pt_cmpR (op_neDK (K := K) (hu64 hr)) (pv 8) (pe_lst pa_nil) (nomark _)) (pss_cons (sset 9 sc_law_heights.nd (pe_lst pa_nil))
    (pss_cons (ps_for PassesOwn.never rfl (pi_list (pv 8)) (pg_tup rfl (pgs_cons (gnm 10 sc_law_heights.nd) (pgs_cons (gnm 11 sc_law_heights.nd) pgs_nil))) (pss_cons (ps_if (PW.pt (pw_or (pt_not (pt_chain op_le op_lt (pv 5) (pv 10) (pv 7))) (pw_or1 (pt_cmpR op_ne (pe_dget2 hu (pv 3) (pv 10) (pv 11) ⟨rfl, rfl, rfl, rfl⟩) (pv 11) (nomark _))))) (pss_one (ps_ret pe_non)) pss_nil)
    (pss_one (ps_if (pt_cmp (pc_dnotin hu (pv 10) (pv 3))) (pss_cons (ps_dput hu (pv 3) (pv 10) (pv 11) rfl)
    (pss_cons (sset 12 sc_law_heights.nd (pe_ix ix_tup (pv 2) (pv 10) (fun _ _ => rfl)))
    (pss_cons (sset 13 sc_law_heights.nd (pe_dget2 hu (pe_disp (pps_cons pe_str pe_int (pps_cons pe_str pe_int (pps_cons pe_str pe_int (pps_cons pe_str pe_int (pps_cons pe_str pe_int (pps_cons pe_str pe_int pps_nil)))))) (by rfl) (by rfl) (fun z => by cases z) (by decide)) (pe_ix ix_tup (pv 12) pe_int (fun _ _ => rfl)) pe_int ⟨rfl, rfl, rfl, rfl⟩))
    (pss_cons (sset 13 sc_law_heights.nd (pe_ifExp (pt_cmpR op_in_seq (pe_ix ix_tup (pv 12) pe_int (fun _ _ => rfl)) (pe_lst (pa_cons pe_str (pa_cons pe_str pa_nil))) rfl) (pe_ix ix_tup (pe_ix ix_tup (pv 1) (pe_ix ix_tup (pv 12) pe_int (fun _ _ => rfl)) (fun _ _ => rfl)) pe_int (fun _ _ => rfl)) (pv 13)))
    (pss_cons (ps_if (PW.pt (pw_or (pt_cmpR op_gt (pv 13) (pv 11) (nomark _)) (pw_or (PW.pt (pw_and (pt_cmpR op_eq (pe_ix ix_tup (pv 12) pe_int (fun _ _ => rfl)) pe_str (nomark _)) (pw_and1 (pt_cmpR op_ge (pe_ix ix_tup (pv 12) pe_int (fun _ _ => rfl)) (pv 6) (nomark _))))) (pw_or1 (PW.pt (pw_and (pt_cmpR op_in_seq (pe_ix ix_tup (pv 12) pe_int (fun _ _ => rfl)) (pe_lst (pa_cons pe_str (pa_cons pe_str pa_nil))) rfl) (pw_and1 (pt_cmpR op_ne (pv 13) (pv 11) (nomark _))))))))) (pss_one (ps_ret pe_non)) pss_nil)
    (pss_cons (sset 14 sc_law_heights.nd (pe_op op_add (pe_op op_sub (pv 11) (pv 13)) (pct call_int1 T.int (pa_cons (pe_cmpR op_notIn_seq (pe_ix ix_tup (pv 12) pe_int (fun _ _ => rfl)) (pe_lst (pa_cons pe_str (pa_cons pe_str (pa_cons pe_str (pa_cons pe_str pa_nil))))) rfl) pa_nil))))
    (pss_cons (sset 15 sc_law_heights.nd (pe_ifExp (pt_cmpR op_in_seq (pe_ix ix_tup (pv 12) pe_int (fun _ _ => rfl)) (pe_lst (pa_cons pe_str (pa_cons pe_str pa_nil))) rfl) (pe_lst pa_nil) (pe_ifExp (pt_cmpR op_eq (pe_ix ix_tup (pv 12) pe_int (fun _ _ => rfl)) pe_str (nomark _)) (pe_lst (pa_cons (pe_ix ix_tup (pv 12) pe_int (fun _ _ => rfl)) pa_nil)) (pe_ifExp (pt_cmpR op_eq (pe_ix ix_tup (pv 12) pe_int (fun _ _ => rfl)) pe_str (nomark _)) (pe_lst (pa_cons (pe_op op_add (pv 10) pe_int) (pa_cons (pe_ix ix_tup (pv 12) pe_int (fun _ _ => rfl)) pa_nil))) (pe_lst (pa_cons (pe_op op_add (pv 10) pe_int) pa_nil))))))
    (pss_one (sset 9 sc_law_heights.nd (pe_op op_cat (pv 9) (pe_lc (own := [("_law_there", 16)]) (g := (gName 16)) (tt := tYes) rfl sc_law_heights.nd (pi_list (pv 15)) (blkOk_by (N := ["_law_code_here", "_law_entries", "_law_some", "_law_found", "_law_k", "_law_begin", "_law_lates_here", "_law_end", "_law_walk", "_law_more", "_law_at", "_law_high", "_law_one", "_law_takes", "_law_rest", "_law_nexts", "_law_there"]) (sc := defScope s_law_heights) (by decide +kernel)) (fun _ _ _ _ _ => (gnm 16 sc_law_heights.nd)) (fun _ _ _ _ _ => pts_nil) (fun _ _ _ _ _ => (pe_tup (pa_cons (pv 16) (pa_cons (pv 14) pa_nil))))))))))))))) pss_nil))))
    (pss_one (sset 8 sc_law_heights.nd (pv 9)))))))))))
    (pss_one (ps_ret (pv 3)))))), ?_⟩
  refine ⟨_, rfl, c, _, rfl, SqT.of hC.c, rfl, _, _, rfl, _, _, rfl, rfl, ?_⟩
  intro d hp_d
  generalize hG_d : upd _ d _ = H1
  obtain ⟨x1, g1⟩ := nw hp_d hG_d
  have d0 : H d = none := hp_d
  have C1 := hC.mono (Tx.of x1)
  have hle := hC.es.length
  have hli := hC.is.length
  have hl300 := hok.elen
  refine ⟨_, rfl, e, _, rfl, .inr (SqT.of C1.e), _, rfl, by omega, by omega, ?_⟩
  have un0 : unv is [] ≤ is.length := unv_le is []
  refine for_range (lo := 0) (n := ((exs.length : Nat) : Int).toNat) (fun i σ' H' => ∃ (v4 v5 v6 v7 v8 v9 v10 v11 v12 v13 v14 v15 : Option V) (f : Fd), σ' = [some (.ref c), some (.ref e), some (.ref s), some (.ref d), v4, v5, v6, v7, v8, v9, v10, v11, v12, v13, v14, v15, none] ∧ Kp d H1 H' ∧ H' d = some (.dK (dK f)) ∧ f.length + unv is f ≤ is.length ∧ hall es is ((spansOf es is.length).drop i) f = HA es is)
    ⟨_, _, _, _, _, _, _, _, _, _, _, _, [], rfl, Kp.refl _ _, g1, by show 0 + unv is [] ≤ is.length; omega, rfl⟩ ?_ ?_
  · rintro i _ H3 hi ⟨v4, v5, v6, v7, v8, v9, v10, v11, v12, v13, v14, v15, f, rfl, k, hd, hfl, hh⟩
    have hi2 : i < es.length := by omega
    have tx := k.txd g1
    have C3 := C1.mono tx
    obtain ⟨en, hen⟩ : ∃ en, es[i]? = some en := ⟨_, List.getElem?_eq_getElem hi2⟩
    have ht := spans_at (n := (is.length : Int)) hen
    obtain ⟨t1, t2⟩ := spans_ok hok (List.mem_of_getElem? ht)
    have hdrop : (spansOf es is.length).drop i = (en.1, (match es[i + 1]? with | some q => q.1 | none => (is.length : Int)), en.2) :: (spansOf es is.length).drop (i + 1) := List.drop_eq_getElem?_toList_append.trans (by rw [ht]; rfl)
    rw [hdrop] at hh
    obtain ⟨a, ha1, ha2⟩ := C3.es.get hen
    refine ⟨_, rfl, _, rfl, e, _, _, .ref a, rfl, rfl, SqT.of C3.e, by rw [Int.zero_add]; exact atI_nat ha1, a, _, rfl, SqT.of ha2, rfl, _, _, rfl, _, _, rfl, rfl, ?_⟩
    refine ⟨_, rfl, _, _, rfl, rfl, _, rfl, e, _, rfl, .inr (SqT.of C3.e), _, _, rfl, rfl, _, rfl, ?_⟩
    refine ite_key (H := H3) (v := .int (match es[i + 1]? with | some q => q.1 | none => (is.length : Int))) (A := tOp _ _ _ _ _) (B := tCB _ _ _ _) (fun z Q0 q0 => ?_) (fun z Q0 q0 => ?_) ?_
    · have z' := of_decide_eq_true z
      have hi3 : i + 1 < es.length := by omega
      have hen2 := List.getElem?_eq_getElem hi3
      obtain ⟨a3, ha3, ha4⟩ := C3.es.get hen2
      rw [hen2] at q0
      refine ⟨_, rfl, _, rfl, _, _, rfl, rfl, e, _, _, .ref a3, rfl, rfl, SqT.of C3.e, ?_, a3, _, _, _, rfl, rfl, SqT.of ha4, rfl, q0⟩
      have e1 : ((0 : Int) + i + 1) = ((i + 1 : Nat) : Int) := by omega
      rw [e1]
      exact atI_nat ha3
    · have z' := of_decide_eq_false z
      rw [List.getElem?_eq_none (by omega : es.length ≤ i + 1)] at q0
      refine ⟨_, rfl, s, _, rfl, .inr (SqT.of C3.s), ?_⟩
      rw [hli]
      exact q0
    generalize (match es[i + 1]? with | some q => q.1 | none => (is.length : Int)) = en2 at ht t2 hdrop hh
    obtain ⟨b, l⟩ := en
    have t2 : en2 ≤ (is.length : Int) := t2
    have t1 : 0 ≤ b := t1
    obtain ⟨res, hres⟩ := hwalk_tot (es := es) (is := is) (b := b) (e := en2) (l := l) t1 (is.length + 1) [(b, 0)] f (by have := unv_le is f; omega)
    have hrn : res = none → ∀ H', Kp d H3 H' → Q .non H' := fun z H' k2 => by
      subst z
      refine qN ?_ _ (fun bb o hb => (k.trans k2) _ _ (ne_of_none hb d0) (x1 _ _ hb))
      rw [← hh]
      simp only [hall, hres]
    have hrs : ∀ f', res = some f' → hall es is ((spansOf es is.length).drop (i + 1)) f' = HA es is := fun f' z => by
      subst z
      rw [← hh]
      simp only [hall, hres]
    refine ⟨_, rfl, z2, ?_⟩
    intro ta hp_ta
    generalize hG_ta : upd _ ta _ = H4
    obtain ⟨x4, g4⟩ := nw hp_ta hG_ta
    refine ⟨z1, ?_⟩
    intro r1 hp_r1
    generalize hG_r1 : upd _ r1 _ = H5
    obtain ⟨x5, g5⟩ := nw hp_r1 hG_r1
    have x35 := x4.trans x5
    refine ⟨fun m σ' H' => ∃ (r : Addr) (v9 v10 v11 v12 v13 v14 v15 : Option V) (rows f : Fd) (ws : List V), σ' = [some (.ref c), some (.ref e), some (.ref s), some (.ref d), some (.int (0 + (i : Int))), some (.int b), some (.int l), some (.int en2), some (.ref r), v9, v10, v11, v12, v13, v14, v15, none] ∧ Kp d H3 H' ∧ H' d = some (.dK (dK f)) ∧
      H' r = some (.lst ws) ∧ Paired (RowAt H') ws rows ∧ f.length + unv is f ≤ is.length ∧ rows.length ≤ 2 * is.length + 1 ∧ hwalk es is b en2 l m rows f = some res, ?_, ?_⟩
    · exact ⟨is.length + 1, r1, _, _, _, _, _, _, _, [(b, 0)], f, [.ref ta], rfl, Kp.of x35, x35 _ _ hd, g5, .cons ⟨ta, rfl, x5 _ _ g4⟩ .nil, hfl, by show 1 ≤ 2 * is.length + 1; omega, hres⟩
    rintro m _ H6 ⟨r, v9, v10, v11, v12, v13, v14, v15, rows, f, ws, rfl, k6, hd6, hr6, hP6, hfl6, hrl6, hw6⟩
    refine ⟨_, rfl, z0, ?_⟩
    intro en0 hp_en0
    generalize hG_en0 : upd _ en0 _ = H7
    obtain ⟨x7, g7⟩ := nw hp_en0 hG_en0
    have hP7 : Paired (RowAt H7) ws rows := L2.Paired.mapP hP6 fun _ _ h => h.mono (Tx.of x7)
    refine ⟨.list (rows.map rD), .list [], .lst (SqL.of (x7 _ _ hr6)) (rD_dp hP7), .lst (SqL.of g7) .nil, rD_shaped rows, nil_shaped, ?_⟩
    rw [rD_nil]
    refine ⟨_, rfl, if2 (fun cc => ?_) (fun cc => ?_)⟩
    · refine ⟨_, fun _ _ h => h, ?_⟩
      obtain ⟨r0, rs, hre⟩ : ∃ r0 rs, rows = r0 :: rs := by
        cases rows with
        | nil => cases cc
        | cons r0 rs => exact ⟨_, _, rfl⟩
      obtain ⟨m', rfl⟩ : ∃ m', m = m' + 1 := by
        cases m with
        | zero =>
          rw [hre] at hw6
          cases hw6
        | succ m' => exact ⟨m', rfl⟩
      have hwp : ∀ q, hpass es is b en2 l rows f [] = q → (match q with | none => some none | some (f', mm) => hwalk es is b en2 l m' mm f') = some res := fun q hq => by
        rw [← hq, hre, ← hw6, hre]
        rfl
      refine ⟨z0, ?_⟩
      intro mo hp_mo
      generalize hG_mo : upd _ mo _ = H8
      obtain ⟨x8, g8⟩ := nw hp_mo hG_mo
      have x68 := x7.trans x8
      have hP8 : Paired (RowAt H8) ws rows := L2.Paired.mapP hP6 fun _ _ h => h.mono (Tx.of x68)
      refine ⟨_, rfl, r, rfl, ⟨_, SqL.of (x68 _ _ hr6)⟩, ?_⟩
      refine for_list (K := K) (a := r) (xs := ws) (fun i2 σ' H' => ∃ (v10 v11 v12 v13 v14 v15 : Option V) (mo : Addr) (f1 m1 : Fd) (ms : List V), σ' = [some (.ref c), some (.ref e), some (.ref s), some (.ref d), some (.int (0 + (i : Int))), some (.int b), some (.int l), some (.int en2), some (.ref r), some (.ref mo), v10, v11, v12, v13, v14, v15, none] ∧ Kp d H3 H' ∧ H' d = some (.dK (dK f1)) ∧ H' r = some (.lst ws) ∧
          Paired (RowAt H') ws rows ∧ H' mo = some (.lst ms) ∧ Paired (RowAt H') ms m1 ∧ f1.length + unv is f1 ≤ is.length ∧ m1.length + 2 * unv is f1 ≤ 2 * is.length ∧ hpass es is b en2 l (rows.drop i2) f1 m1 = hpass es is b en2 l rows f [])
        ⟨_, _, _, _, _, _, mo, f, [], [], rfl, k6.trans (Kp.of x68), x68 _ _ hd6, x68 _ _ hr6, hP8, g8, .nil, hfl6, by have := unv_le is f; show 0 + 2 * unv is f ≤ _; omega, rfl⟩ ?_ ?_ ?_
      · rintro j _ H' _ ⟨_, _, _, _, _, _, _, _, _, _, _, _, _, h, _⟩
        exact SqL.of h
      · rintro j y _ H9 hy ⟨v10, v11, v12, v13, v14, v15, mo, f1, m1, ms, rfl, k9, hd9, hr9, hP9, hmo9, hPm9, hfl9, hml9, hp9⟩
        obtain ⟨⟨at_, hh⟩, hrow, a, rfl, ha⟩ := Paired.at_ hP9 hy
        have hdrop2 : rows.drop j = (at_, hh) :: rows.drop (j + 1) := List.drop_eq_getElem?_toList_append.trans (by rw [hrow]; rfl)
        rw [hdrop2] at hp9
        refine ⟨a, _, rfl, SqT.of ha, rfl, _, _, rfl, _, _, rfl, rfl, ?_⟩
        have bad : hstep es is b en2 l (at_, hh) f1 m1 = none → res = none := fun hs => by
          have h1 : hpass es is b en2 l ((at_, hh) :: rows.drop (j + 1)) f1 m1 = none := by simp only [hpass, hs]
          rw [h1] at hp9
          have := hwp _ hp9.symm
          exact (Option.some.inj this).symm
        have good : ∀ f2 m2, hstep es is b en2 l (at_, hh) f1 m1 = some (f2, m2) → hpass es is b en2 l (rows.drop (j + 1)) f2 m2 = hpass es is b en2 l rows f [] := fun f2 m2 hs => by
          rw [← hp9]
          simp only [hpass, hs]
        by_cases hb1 : b ≤ at_
        case neg =>
          refine ⟨_, rfl, _, rfl, _, _, rfl, rfl, _, rfl, ifF (decide_eq_false hb1) ⟨_, rfl, ifT rfl (ifT rfl ?_)⟩⟩
          exact hrn (bad (if_neg fun z => hb1 z.1)) _ k9
        by_cases hb2 : at_ < en2
        case neg =>
          refine ⟨_, rfl, _, rfl, _, _, rfl, rfl, _, rfl, ifT (decide_eq_true hb1) ⟨_, rfl, _, _, rfl, rfl, _, rfl, ?_⟩⟩
          rw [decide_eq_false hb2]
          refine ifT rfl (ifT rfl ?_)
          exact hrn (bad (if_neg fun z => hb2 z.2)) _ k9
        refine ⟨_, rfl, _, rfl, _, _, rfl, rfl, _, rfl, ifT (decide_eq_true hb1) ⟨_, rfl, _, _, rfl, rfl, _, rfl, ?_⟩⟩
        rw [decide_eq_true hb2]
        refine ifF rfl ?_
        have hstepE : hstep es is b en2 l (at_, hh) f1 m1 = (match fget f1 at_ with
          | some h => if h = hh then some (f1, m1) else none
          | none => (match is[at_.toNat]? with
            | none => none
            | some i => if snd es i l hh = true then some (f1 ++ [(at_, hh)], m1 ++ (nxt i at_).map fun a => (a, hh - ndT es i + ndP i)) else none)) := if_pos ⟨hb1, hb2⟩
        refine ⟨_, rfl, d, rfl, .inl ⟨_, .inl hd9⟩, _, rfl, _, rfl, _, DGet.k (k := .inl at_) hd9, ?_⟩
        rw [dK_get]
        cases hg : fget f1 at_ with
        | some h1 =>
          rw [hg] at hstepE
          refine ⟨_, rfl, rfl, _, rfl, ?_⟩
          by_cases hh1 : h1 = hh
          · subst hh1
            refine ifF (by simp) ?_
            refine ⟨_, rfl, _, rfl, d, _, rfl, DGet.k (k := .inl at_) hd9, ?_⟩
            rw [dK_get, hg]
            refine ⟨_, rfl, ifF rfl ?_⟩
            exact ⟨_, _, _, _, _, _, mo, f1, m1, ms, rfl, k9, hd9, hr9, hP9, hmo9, hPm9, hfl9, hml9, good _ _ (hstepE.trans (if_pos rfl))⟩
          · refine ifT (by
              have : decide (V.int h1 = V.int hh) = false := decide_eq_false fun z => hh1 (V.int.inj z)
              show (!decide (V.int h1 = V.int hh)) = true
              rw [this]
              rfl) ?_
            exact hrn (bad (hstepE.trans (if_neg hh1))) _ k9
        | none =>
          rw [hg] at hstepE
          refine ⟨_, rfl, rfl, _, rfl, ifF (by simp) ?_⟩
          refine ⟨_, rfl, _, rfl, d, _, rfl, DGet.k (k := .inl at_) hd9, ?_⟩
          rw [dK_get, hg]
          refine ⟨_, rfl, ifT rfl ?_⟩
          have hul := unv_le is f1
          have hil := hok.ilen
          refine ⟨_, rfl, _, rfl, _, rfl, d, _, rfl, DPut.k (k := .inl at_) hd9 (by rw [List.length_map]; exact sz' (by omega)), ?_⟩
          rw [dK_put hg]
          have kp0 : Kp d H9 (upd H9 d (.dK (dK (f1 ++ [(at_, hh)])))) := Kp.put
          have hd10 : (upd H9 d (.dK (dK (f1 ++ [(at_, hh)])))) d = some (.dK (dK (f1 ++ [(at_, hh)]))) := upd_same
          generalize upd H9 d (.dK (dK (f1 ++ [(at_, hh)]))) = H10 at kp0 hd10
          have k10 := k9.trans kp0
          have nm : mo ≠ d := fun z => by
            rw [z, hd9] at hmo9
            cases hmo9
          have nr : r ≠ d := fun z => by
            rw [z, hd9] at hr9
            cases hr9
          have t910 : Tx H9 H10 := kp0.txd hd9
          have C10 := C3.mono (k10.txd hd)
          have hal : at_.toNat < is.length := by omega
          obtain ⟨ins, hins⟩ : ∃ ins, is[at_.toNat]? = some ins := ⟨_, List.getElem?_eq_getElem hal⟩
          rw [hins] at hstepE
          have hul2 := unv_lt (is := is) (f := f1) (a := at_) (h := hh) (by omega) hal hg
          have hoki := hok.ins ins (List.mem_of_getElem? hins)
          obtain ⟨a2, hat2, ha2⟩ := C10.one (n := at_) (by omega) hins
          refine ⟨_, rfl, _, rfl, s, _, _, _, rfl, rfl, SqT.of C10.s, hat2, ?_⟩
          intro pd hpd
          refine ⟨upd_same, dtk2, rfl, by decide, ?_⟩
          have x11 : Ex H10 (upd (upd H10 pd (.dK [])) pd (.dK (mergeK [] dtk2))) := Ex.at (Ex.new hpd) hpd
          have g11 : (upd (upd H10 pd (.dK [])) pd (.dK (mergeK [] dtk2))) pd = some (.dK (mergeK [] dtk2)) := upd_same
          generalize (upd (upd H10 pd (.dK [])) pd (.dK (mergeK [] dtk2))) = H11 at x11 g11
          have ha11 := x11 _ _ ha2
          refine ⟨pd, rfl, .inl ⟨_, .inl g11⟩, _, rfl, a2, _, _, _, rfl, rfl, SqT.of ha11, ins.v0, _, DGet.k (k := .inr ins.tag) g11, ?_⟩
          obtain ⟨tk, htk⟩ := tk2_int ins
          rw [htk]
          refine ⟨_, rfl, a2, _, _, _, rfl, rfl, SqT.of ha11, ins.v0, z2, ?_⟩
          intro p12 hp_p12
          generalize hG_p12 : upd _ p12 _ = H12
          obtain ⟨x12, g12⟩ := nw hp_p12 hG_p12
          refine ⟨p12, _, rfl, .inl (SqL.of g12), rfl, by simp [flatV], _, rfl, ?_⟩
          have x1012 := x11.trans x12
          have C12 := C10.mono (Tx.of x1012)
          have ha12 := x12 _ _ ha11
          refine ite_key (H := H12) (v := .int (ndT es ins)) (A := tOp _ _ _ _ _) (B := tVar _ _ _) (fun z Q0 q0 => ?_) (fun z Q0 q0 => ?_) ?_
          · have hcase : ∃ j, ins.v = [.str ins.tag, .int j] ∧ 0 ≤ j ∧ j < (es.length : Int) ∧ ndT es ins = ((es[j.toNat]?).map (·.2)).getD 0 := by
              have z := (tagI ins).symm.trans z
              cases ins with
              | call j => exact ⟨j, rfl, hoki.1, hoki.2, rfl⟩
              | tail j => exact ⟨j, rfl, hoki.1, hoki.2, rfl⟩
              | _ => cases z
            obtain ⟨jj, hv, hj0, hj1, hnd⟩ := hcase
            obtain ⟨en3, ea, hen3, hea1, hea2⟩ := C12.en hj0 hj1
            rw [hen3] at hnd
            have hnd2 : ndT es ins = en3.2 := hnd
            rw [hv] at ha12
            refine ⟨_, rfl, _, rfl, a2, _, _, _, rfl, rfl, SqT.of ha12, rfl, e, _, _, _, rfl, rfl, SqT.of C12.e, hea1, ea, _, _, _, rfl, rfl, SqT.of hea2, rfl, ?_⟩
            rw [← hnd2]
            exact q0
          · have z := (tagI ins).symm.trans z
            refine ⟨_, rfl, ?_⟩
            have e1 : tk = ndT es ins := V.int.inj (htk.symm.trans (tk2_get z))
            rw [e1]
            exact q0
          unfold gName
          dsimp only
          unfold tSeq
          dsimp only
          unfold tIfS
          refine tt_key (t := tOr _ _ _ _) (b := !snd es ins l hh) (H := H12) (fun Q' hQ => ?_) (fun H13 x13 => ?_)
          · refine ⟨_, rfl, _, rfl, _, _, rfl, rfl, _, rfl, if2 (fun c1 => ?_) (fun c1 => ?_)⟩
            · have c2 := of_decide_eq_true c1
              have e1 : snd es ins l hh = false := if_pos c2
              rw [e1] at hQ
              exact hQ _ (Ex.refl _)
            have c2 := of_decide_eq_false c1
            have e1 : snd es ins l hh = sndT es l hh ins := if_neg c2
            rw [e1] at hQ
            by_cases hA : ∃ k, ins = .arg k
            · obtain ⟨k, rfl⟩ := hA
              refine ⟨_, rfl, a2, _, _, _, rfl, rfl, SqT.of ha12, rfl, rfl, _, rfl, ifT (by decide +kernel) ?_⟩
              refine ⟨_, rfl, a2, _, _, _, rfl, rfl, SqT.of ha12, rfl, _, rfl, _, _, rfl, rfl, _, rfl, if2 (fun c3 => ?_) (fun c3 => ?_)⟩
              · have c4 := of_decide_eq_true c3
                have e2 : sndT es l hh (.arg k) = false := decide_eq_false (by omega)
                rw [e2] at hQ
                exact hQ _ (Ex.refl _)
              · have c4 := of_decide_eq_false c3
                have e2 : sndT es l hh (.arg k) = true := decide_eq_true (by omega)
                rw [e2] at hQ
                refine ⟨_, rfl, a2, _, _, _, rfl, rfl, SqT.of ha12, rfl, z2, ?_⟩
                intro p13 hp_p13
                generalize hG_p13 : upd _ p13 _ = H13
                obtain ⟨x13, g13⟩ := nw hp_p13 hG_p13
                refine ⟨p13, _, rfl, .inl (SqL.of g13), rfl, by simp [flatV], _, rfl, ifF (by decide +kernel) ?_⟩
                exact hQ _ x13
            · refine ⟨_, rfl, a2, _, _, _, rfl, rfl, SqT.of ha12, ins.v0, rfl, _, rfl, ifF (tagA hA) (ifF rfl ?_)⟩
              refine ⟨_, rfl, a2, _, _, _, rfl, rfl, SqT.of ha12, ins.v0, z2, ?_⟩
              intro p13 hp_p13
              generalize hG_p13 : upd _ p13 _ = H13
              obtain ⟨x13, g13⟩ := nw hp_p13 hG_p13
              refine ⟨p13, _, rfl, .inl (SqL.of g13), rfl, by simp [flatV], _, rfl, ?_⟩
              cases hb : ins.isBT with
              | true =>
                refine ifT ((tagBTb ins).trans hb) ⟨_, rfl, _, rfl, rfl, _, rfl, ?_⟩
                rw [sndT_BT hb] at hQ
                have e3 : decide (V.int (ndT es ins) = V.int hh) = decide (ndT es ins = hh) := dec_int.trans (by rw [Bool.eq_iff_iff]; simp)
                rw [e3]
                exact hQ _ x13
              | false =>
                refine ifF ((tagBTb ins).trans hb) ?_
                rw [sndT_no hb hA] at hQ
                exact hQ _ x13
          have x1013 := x1012.trans x13
          have C13 := C10.mono (Tx.of x1013)
          have ha13 := x1013 _ _ ha2
          cases hsd : snd es ins l hh with
          | false =>
            refine ifT rfl ?_
            exact hrn (bad (hstepE.trans (if_neg (by rw [hsd]; exact Bool.false_ne_true)))) _ (k10.trans (Kp.of x1013))
          | true =>
            refine ifF rfl ?_
            have hst := hstepE.trans (if_pos hsd)
            refine ⟨_, rfl, _, rfl, _, _, rfl, rfl, _, rfl, a2, _, _, _, rfl, rfl, SqT.of ha13, ins.v0, z4, ?_⟩
            intro p14 hp_p14
            generalize hG_p14 : upd _ p14 _ = H14
            obtain ⟨x14, g14⟩ := nw hp_p14 hG_p14
            refine ⟨p14, _, rfl, .inl (SqL.of g14), rfl, by simp [flatV], .inr ⟨_, rfl, _, _, rfl, rfl, ?_⟩⟩
            have hput : (if (if true = true then !inV (.str ins.tag) [.str "zero", .str "jump", .str "back", .str "tail"] else inV (.str ins.tag) [.str "zero", .str "jump", .str "back", .str "tail"]) = true then (1 : Int) else 0) = ndP ins := by
              rw [if_pos rfl, tagPut, ndP_put, Bool.not_not]
            rw [hput]
            dsimp only
            unfold tAsg
            refine te_key (t := tIf _ _ _ _ _) (xs := (nxt ins at_).map V.int) (H := H14) (fun Q' hQ => ?_) (fun p9 H15 x15 g15 => ?_)
            · have ha14 := x14 _ _ ha13
              refine ⟨_, rfl, a2, _, _, _, rfl, rfl, SqT.of ha14, ins.v0, z2, ?_⟩
              intro p15 hp_p15
              generalize hG_p15 : upd _ p15 _ = H15
              obtain ⟨x15, g15⟩ := nw hp_p15 hG_p15
              refine ⟨p15, _, rfl, .inl (SqL.of g15), rfl, by simp [flatV], _, rfl, ?_⟩
              have ha15 := x15 _ _ ha14
              by_cases hJ : ∃ n, ins = .jump n
              · obtain ⟨n, rfl⟩ := hJ
                refine ifF (tagBTb _) ?_
                refine ⟨_, rfl, a2, _, _, _, rfl, rfl, SqT.of ha15, rfl, rfl, _, rfl, ifT (by decide +kernel) ?_⟩
                refine ⟨_, rfl, a2, _, _, _, rfl, rfl, SqT.of ha15, rfl, z1, ?_⟩
                intro p16 hp_p16
                generalize hG_p16 : upd _ p16 _ = H16
                obtain ⟨x16, g16⟩ := nw hp_p16 hG_p16
                exact hQ p16 H16 (x15.trans x16) g16
              by_cases hZ : ∃ n, ins = .zero n
              · obtain ⟨n, rfl⟩ := hZ
                refine ifF (tagBTb _) ?_
                refine ⟨_, rfl, a2, _, _, _, rfl, rfl, SqT.of ha15, rfl, rfl, _, rfl, ifF (by decide +kernel) ?_⟩
                refine ⟨_, rfl, a2, _, _, _, rfl, rfl, SqT.of ha15, rfl, rfl, _, rfl, ifT (by decide +kernel) ?_⟩
                refine ⟨_, rfl, _, _, rfl, rfl, _, rfl, a2, _, _, _, rfl, rfl, SqT.of ha15, rfl, z2, ?_⟩
                intro p16 hp_p16
                generalize hG_p16 : upd _ p16 _ = H16
                obtain ⟨x16, g16⟩ := nw hp_p16 hG_p16
                exact hQ p16 H16 (x15.trans x16) g16
              cases hb : ins.isBT with
              | true =>
                refine ifT ((tagBTb ins).trans hb) ⟨z0, ?_⟩
                intro p16 hp_p16
                generalize hG_p16 : upd _ p16 _ = H16
                obtain ⟨x16, g16⟩ := nw hp_p16 hG_p16
                have e4 : nxt ins at_ = [] := by cases ins <;> first | rfl | cases hb
                rw [e4] at hQ
                exact hQ p16 H16 (x15.trans x16) g16
              | false =>
                obtain ⟨f1', f2', f3'⟩ := nx_one (at_ := at_) hJ hZ hb
                refine ifF ((tagBTb ins).trans hb) ?_
                refine ⟨_, rfl, a2, _, _, _, rfl, rfl, SqT.of ha15, ins.v0, rfl, _, rfl, ifF f1' ?_⟩
                refine ⟨_, rfl, a2, _, _, _, rfl, rfl, SqT.of ha15, ins.v0, rfl, _, rfl, ifF f2' ?_⟩
                refine ⟨_, rfl, _, _, rfl, rfl, z1, ?_⟩
                intro p16 hp_p16
                generalize hG_p16 : upd _ p16 _ = H16
                obtain ⟨x16, g16⟩ := nw hp_p16 hG_p16
                rw [f3'] at hQ
                exact hQ p16 H16 (x15.trans x16) g16
            · refine ⟨_, rfl, _, rfl, p9, rfl, ⟨_, SqL.of g15⟩, fun DD hD => ?_⟩
              have x1015 := (x1013.trans x14).trans x15
              refine lc_list (K := K) (a := p9) (vs := [16]) (g := gName 16) (tt := tYes) (xs := (nxt ins at_).map V.int) (fun i H' => ∃ acc : List V, H' DD = some (.lst acc) ∧ acc.length ≤ i ∧ Kp DD H15 H' ∧ Paired (RowAt H') acc (((nxt ins at_).take i).map fun a => (a, hh - ndT es ins + ndP ins))) ⟨[], upd_same, Nat.le_refl _, Kp.put, by simpa using Paired.nil⟩ ?_ ?_ ?_
              · rintro j2 H' _ ⟨acc, _, _, kp, _⟩
                exact SqL.of (kp.ex hD _ _ g15)
              · rintro j2 y H' hy ⟨acc, hacc, hal9, kp, hpa⟩
                obtain ⟨n1, hn1, rfl⟩ : ∃ n1, (nxt ins at_)[j2]? = some n1 ∧ y = V.int n1 := by
                  rw [List.getElem?_map] at hy
                  cases hz : (nxt ins at_)[j2]? with
                  | none => rw [hz] at hy; cases hy
                  | some n1 => rw [hz] at hy; cases hy; exact ⟨n1, rfl, rfl⟩
                have hj2 : j2 < 2 := by
                  have h1 := (List.getElem?_eq_some_iff.mp hn1).1
                  have h2 : (nxt ins at_).length ≤ 2 := by cases ins <;> simp [nxt]
                  omega
                refine ⟨rfl, _, rfl, _, rfl, z2, ?_⟩
                intro a5 hp_a5
                generalize hG_a5 : upd _ a5 _ = H16
                obtain ⟨x16, g16⟩ := nw hp_a5 hG_a5
                have hpa16 := L2.Paired.mapP hpa fun _ _ h => h.mono (Tx.of x16)
                refine ⟨acc, x16 _ _ hacc, sz' (by omega), acc ++ [.ref a5], upd_same, by rw [List.length_append, List.length_singleton]; omega, (kp.trans (Kp.of x16)).trans Kp.put, ?_⟩
                rw [take_snoc hn1, List.map_append]
                have tt : Tx H16 (upd H16 DD (.lst (acc ++ [.ref a5]))) := Kp.put.tx (x16 _ _ hacc)
                exact Paired.snoc ⟨a5, rfl, tt _ _ g16⟩ (L2.Paired.mapP hpa16 fun _ _ h => h.mono tt)
              · rintro H16 ⟨acc, hacc, hal9, kp, hpa⟩
                rw [List.length_map, List.take_of_length_le (Nat.le_refl _)] at hpa
                have x1016 := x1015.trans (kp.ex hD)
                have hml := hPm9.length
                have h2 : (nxt ins at_).length ≤ 2 := by cases ins <;> simp [nxt]
                have hac : acc.length ≤ 2 := by rw [List.length_map] at hal9; omega
                refine ⟨mo, DD, ms, acc, rfl, rfl, x1016 _ _ (kp0 _ _ nm hmo9), hacc, sz (by omega), ?_⟩
                intro mo2 hp_mo2
                generalize hG_mo2 : upd _ mo2 _ = H17
                obtain ⟨x17, g17⟩ := nw hp_mo2 hG_mo2
                have x1017 := x1016.trans x17
                have t917 : Tx H9 H17 := t910.trans (Tx.of x1017)
                refine ⟨_, _, _, _, _, _, mo2, _, _, _, rfl, k10.trans (Kp.of x1017), x1017 _ _ hd10, x1017 _ _ (kp0 _ _ nr hr9), L2.Paired.mapP hP9 fun _ _ h => h.mono t917, g17, Paired.app (L2.Paired.mapP hPm9 fun _ _ h => h.mono t917) (L2.Paired.mapP hpa fun _ _ h => h.mono (Tx.of x17)), ?_, ?_, good _ _ hst⟩
                · rw [List.length_append, List.length_singleton]
                  omega
                · rw [List.length_append, List.length_map]
                  omega
      · rintro _ H9 ⟨v10, v11, v12, v13, v14, v15, mo, f1, m1, ms, rfl, k9, hd9, hr9, hP9, hmo9, hPm9, hfl9, hml9, hp9⟩
        rw [List.drop_of_length_le (Nat.le_of_eq hP9.length.symm)] at hp9
        have hw9 := hwp _ hp9.symm
        refine ⟨_, rfl, m', Nat.lt_succ_self _, mo, _, _, _, _, _, _, _, m1, f1, ms, rfl, k9, hd9, hmo9, hPm9, hfl9, by omega, hw9⟩
    · have hre : rows = [] := by
        cases rows with
        | nil => rfl
        | cons r0 rs => cases cc
      subst hre
      rw [hwalk_nil] at hw6
      cases hw6
      exact ⟨_, _, _, _, _, _, _, _, _, _, _, _, f, rfl, k.trans (k6.trans (Kp.of x7)), x7 _ _ hd6, hfl6, hrs f rfl⟩
  · rintro _ H3 ⟨v4, v5, v6, v7, v8, v9, v10, v11, v12, v13, v14, v15, f, rfl, k, hd, hfl, hh⟩
    have hsl : (spansOf es is.length).length ≤ ((exs.length : Nat) : Int).toNat := by
      unfold spansOf
      rw [List.length_map, List.length_zip]
      omega
    rw [List.drop_of_length_le hsl] at hh
    exact ⟨_, rfl, q f hh.symm d H3 (fun bb o hb => k _ _ (ne_of_none hb d0) (x1 _ _ hb)) hd (by omega)⟩
end

end M10
set_option Elab.async false
set_option linter.all false
set_option maxRecDepth 100000
set_option maxHeartbeats 4000000
namespace M10
open PySem PySem.Spec PyProof.Rows L2 Evl
/-! ### the law's own walk, from its end: the depths -/
section
variable {P : Program} {w : World} {K : PySem.W.Frag} {mg : Str → Option Value} {base : Heap}
theorem sc_law : FnScope ["_law_script", "_law_row", "_law_plain_here", "_law_code_here", "_law_entries", "_law_some", "_law_at", "_law_other_row", "_law_other", "_law_lates_here", "_law_fuel", "_law_found", "_law_told_here", "_law_most", "_law_one", "_law_takes", "_law_k"] ["_law_script"] (defScope s_law) := ⟨rfl, rfl, rfl, by decide +kernel, rfl, by decide +kernel, by decide +kernel⟩
abbrev LX (P : Program) (w : World) (K : PySem.W.Frag) (mg : Str → Option Value) (base : Heap) (f cl : Addr) (A : Around) (outer : List Env) (s : Shared) (H : Hp) (E : XK) : Cx := cxOf (L2.CX P w) P w K mg base ["_law_script", "_law_row", "_law_plain_here", "_law_code_here", "_law_entries", "_law_some", "_law_at", "_law_other_row", "_law_other", "_law_lates_here", "_law_fuel", "_law_found", "_law_told_here", "_law_most", "_law_one", "_law_takes", "_law_k"] "law" (defScope s_law) f (.ref cl) A outer s H E
/-- before statement 9: the depths are still to be asked -/
def S9 (Pt : List Addr) : TS := fun D σ H => ∃ (v0 v1 v2 v4 v5 v6 v7 v8 v9 v10 v12 v13 v14 v15 v16 : Option V) (c e s d : Addr) (exs ixs : List V) (es : List (Int × Int)) (is : List Ins) (fd : Fd),
  σ = [v0, v1, v2, some (.ref c), v4, v5, v6, v7, v8, v9, v10, some (.ref d), v12, v13, v14, v15, v16] ∧ CodeAt H c e s exs ixs es is ∧ CodeOk es is ∧ TGs H Pt ∧ HA es is = some fd ∧ H d = some (.dK (dK fd)) ∧ fd.length ≤ is.length ∧ ∀ H', D.rt (.bl true) H'
theorem law_s9 {f cl CU : Addr} {Pt : List Addr} {A : Around} {outer : List Env} {s : Shared} {H0 : Hp} {E : XK} (hr : Room 46 (A.deeper (envOfC "law" (defScope s_law) s.heap.objs.size f (.ref cl)))) (T : Tb K mg)
    (c_l_alike : Dn P w K mg base L2.CX0 2 "_law_alike" (spAl 2)) (c_deepest : Dn P w K mg base (L2.CX P w) 6 "deepest" (spDeep CU Pt)) : PSs (LX P w K mg base f cl A outer s H0 E) ((defBody s_law).drop 9) (S9 Pt) := by
  have hu : (A.deeper (envOfC "law" (defScope s_law) s.heap.objs.size f (.ref cl))).units + 1 < cLine := by
    have := hr.un
    omega
  refine PSs.weak (pss_cons (sset 13 sc_law.nd pe_int)
    (pss_cons (ps_lock (ps_for (passes_of rfl) rfl (pi_keys (pv 11)) (gnm 6 sc_law.nd) (pss_cons (sset 14 sc_law.nd (pe_ix ix_tup (pe_ix ix_tup (pv 3) pe_int (fun _ _ => rfl)) (pv 6) (fun _ _ => rfl)))
    (pss_cons (sset 15 sc_law.nd (pe_dget2 hu (pe_disp (pps_cons pe_str pe_int (pps_cons pe_str pe_int (pps_cons pe_str pe_int (pps_cons pe_str pe_int (pps_cons pe_str pe_int (pps_cons pe_str pe_int pps_nil)))))) (by rfl) (by rfl) (fun z => by cases z) (by decide)) (pe_ix ix_tup (pv 14) pe_int (fun _ _ => rfl)) pe_int ⟨rfl, rfl, rfl, rfl⟩))
    (pss_cons (sset 15 sc_law.nd (pe_ifExp (pt_cmpR op_in_seq (pe_ix ix_tup (pv 14) pe_int (fun _ _ => rfl)) (pe_lst (pa_cons pe_str (pa_cons pe_str pa_nil))) rfl) (pe_ix ix_tup (pe_ix ix_tup (pe_ix ix_tup (pv 3) pe_int (fun _ _ => rfl)) (pe_ix ix_tup (pv 14) pe_int (fun _ _ => rfl)) (fun _ _ => rfl)) pe_int (fun _ _ => rfl)) (pv 15)))
    (pss_one (sset 13 sc_law.nd (pcb (cr_max3 rfl) T.max (pa_cons (pv 13) (pa_cons (pe_dget hu (pv 11) (pv 6) (fun _ _ => rfl)) (pa_cons (pe_op op_add (pe_op op_sub (pe_dget hu (pv 11) (pv 6) (fun _ _ => rfl)) (pv 15)) (pct call_int1 T.int (pa_cons (pe_cmpR op_notIn_seq (pe_ix ix_tup (pv 14) pe_int (fun _ _ => rfl)) (pe_lst (pa_cons pe_str (pa_cons pe_str (pa_cons pe_str (pa_cons pe_str pa_nil))))) rfl) pa_nil))) pa_nil)))))))))))
    (pss_one (ps_ret (pe_c0 c_l_alike hr (pa_cons (pe_cx c_deepest hr pX (pa_cons (pv 3) pa_nil)) (pa_cons (pv 13) pa_nil))))))) ?_
  rintro D σ H _ ⟨v0, v1, v2, v4, v5, v6, v7, v8, v9, v10, v12, v13, v14, v15, v16, c, e, sA, d, exs, ixs, es, is, fd, rfl, hC, hok, hT, hfd, hd, hfl, q⟩
  refine ⟨d, _, hd, trivial, fun od => ?_⟩
  have hfz : (upd H d (.frz od (.dK (dK fd)))) d = some (.frz od (.dK (dK fd))) := upd_same
  have C3 : CodeAt (upd H d (.frz od (.dK (dK fd)))) c e sA exs ixs es is := hC.mono (fun a xs ha => by
    rw [upd_ne (fun z => by rw [z, hd] at ha; cases ha)]
    exact ha)
  have hback : ∀ H', Ex (upd H d (.frz od (.dK (dK fd)))) H' → Ex H (upd H' d (.dK (dK fd))) := fun H' x b o hb => by
    by_cases nb : b = d
    · rw [nb] at hb ⊢
      rw [upd_same, ← hb, hd]
    · rw [upd_ne nb]
      refine x _ _ ?_
      rw [upd_ne nb]
      exact hb
  generalize (upd H d (.frz od (.dK (dK fd)))) = H3 at hfz C3 hback
  refine ⟨_, rfl, d, od, rfl, .inl ⟨_, hfz, ?_⟩⟩
  have hdl : (dK fd).length = fd.length := List.length_map ..
  refine for_it (walk_keys (d := d) (o := od) (kvs := dK fd)) (fun i σ' H' => ∃ (w6 w14 w15 : Option V) (mm : Int), σ' = [v0, v1, v2, some (.ref c), v4, v5, w6, v7, v8, v9, v10, some (.ref d), v12, some (.int mm), w14, w15, v16] ∧ Ex H3 H' ∧ dpOf es is (fd.drop i) mm = dpOf es is fd 0) ⟨_, _, _, 0, rfl, Ex.refl _, rfl⟩ ?_ ?_ ?_
  · rintro i _ H' _ ⟨_, _, _, _, _, x, _⟩
    exact x _ _ hfz
  · rintro i y _ H5 H4 hi ⟨w6, w14, w15, mm, rfl, x4, hm⟩ ⟨rfl, kk, vv, hkv, rfl⟩
    obtain ⟨p, hp, hkk⟩ : ∃ p, fd[i]? = some p ∧ (kk, vv) = (.inl p.1, .int p.2) := by
      rw [List.getElem?_map] at hkv
      cases hz : fd[i]? with
      | none => rw [hz] at hkv; cases hkv
      | some p => rw [hz] at hkv; cases hkv; exact ⟨p, rfl, rfl⟩
    cases hkk
    obtain ⟨p0, p1, p2⟩ := HA_FO hok hfd p (List.mem_of_getElem? hp)
    obtain ⟨ins, hins⟩ : ∃ ins, is[p.1.toNat]? = some ins := ⟨_, List.getElem?_eq_getElem p1⟩
    have hdrop : fd.drop i = p :: fd.drop (i + 1) := List.drop_eq_getElem?_toList_append.trans (by rw [hp]; rfl)
    rw [hdrop] at hm
    have C4 := C3.mono (Tx.of x4)
    obtain ⟨a2, hat2, ha2⟩ := C4.one p0 hins
    have hoki := hok.ins ins (List.mem_of_getElem? hins)
    refine ⟨_, rfl, c, _, _, _, rfl, rfl, SqT.of C4.c, rfl, _, rfl, sA, _, _, _, rfl, rfl, SqT.of C4.s, hat2, ?_⟩
    intro pd hpd
    refine ⟨upd_same, dtk2, rfl, by decide, ?_⟩
    have x11 : Ex H4 (upd (upd H4 pd (.dK [])) pd (.dK (mergeK [] dtk2))) := Ex.at (Ex.new hpd) hpd
    have g11 : (upd (upd H4 pd (.dK [])) pd (.dK (mergeK [] dtk2))) pd = some (.dK (mergeK [] dtk2)) := upd_same
    generalize (upd (upd H4 pd (.dK [])) pd (.dK (mergeK [] dtk2))) = H11 at x11 g11
    have ha11 := x11 _ _ ha2
    refine ⟨pd, rfl, .inl ⟨_, .inl g11⟩, _, rfl, a2, _, _, _, rfl, rfl, SqT.of ha11, ins.v0, _, DGet.k (k := .inr ins.tag) g11, ?_⟩
    obtain ⟨tk, htk⟩ := tk2_int ins
    rw [htk]
    refine ⟨_, rfl, a2, _, _, _, rfl, rfl, SqT.of ha11, ins.v0, z2, ?_⟩
    intro p12 hp_p12
    generalize hG_p12 : upd _ p12 _ = H12
    obtain ⟨x12, g12⟩ := nw hp_p12 hG_p12
    refine ⟨p12, _, rfl, .inl (SqL.of g12), rfl, by simp [flatV], _, rfl, ?_⟩
    have x1012 := x11.trans x12
    have C12 := C4.mono (Tx.of x1012)
    have ha12 := x12 _ _ ha11
    refine ite_key (H := H12) (v := .int (ndT es ins)) (A := tOp _ _ _ _ _) (B := tVar _ _ _) (fun z Q0 q0 => ?_) (fun z Q0 q0 => ?_) ?_
    · have hcase : ∃ j, ins.v = [.str ins.tag, .int j] ∧ 0 ≤ j ∧ j < (es.length : Int) ∧ ndT es ins = ((es[j.toNat]?).map (·.2)).getD 0 := by
        have z := (tagI ins).symm.trans z
        cases ins with
        | call j => exact ⟨j, rfl, hoki.1, hoki.2, rfl⟩
        | tail j => exact ⟨j, rfl, hoki.1, hoki.2, rfl⟩
        | _ => cases z
      obtain ⟨jj, hv, hj0, hj1, hnd⟩ := hcase
      obtain ⟨en3, ea, hen3, hea1, hea2⟩ := C12.en hj0 hj1
      rw [hen3] at hnd
      have hnd2 : ndT es ins = en3.2 := hnd
      rw [hv] at ha12
      refine ⟨_, rfl, c, _, _, _, rfl, rfl, SqT.of C12.c, rfl, _, rfl, a2, _, _, _, rfl, rfl, SqT.of ha12, rfl, e, _, _, _, rfl, rfl, SqT.of C12.e, hea1, ea, _, _, _, rfl, rfl, SqT.of hea2, rfl, ?_⟩
      rw [← hnd2]
      exact q0
    · have z := (tagI ins).symm.trans z
      refine ⟨_, rfl, ?_⟩
      have e1 : tk = ndT es ins := V.int.inj (htk.symm.trans (tk2_get z))
      rw [e1]
      exact q0
    have hgt : valV (dK fd) (.inl p.1) = some (.int p.2) := by
      rw [dK_get, p2]
      rfl
    have h12 := x1012 _ _ (x4 _ _ hfz)
    have hG : DGet H12 d (.int p.1) (some (.int p.2)) := .inl ⟨dK fd, .inl p.1, .inr ⟨od, h12⟩, rfl, hgt.symm⟩
    refine ⟨_, rfl, _, rfl, _, rfl, d, _, rfl, hG, ?_⟩
    refine ⟨_, rfl, _, rfl, d, _, rfl, hG, ?_⟩
    refine ⟨_, rfl, _, _, rfl, rfl, _, rfl, a2, _, _, _, rfl, rfl, SqT.of ha12, ins.v0, z4, ?_⟩
    intro p14 hp_p14
    generalize hG_p14 : upd _ p14 _ = H14
    obtain ⟨x14, g14⟩ := nw hp_p14 hG_p14
    refine ⟨p14, _, rfl, .inl (SqL.of g14), rfl, by simp [flatV], .inr ⟨_, rfl, _, _, rfl, rfl, ?_⟩⟩
    have hput : (if (if true = true then !inV (.str ins.tag) [.str "zero", .str "jump", .str "back", .str "tail"] else inV (.str ins.tag) [.str "zero", .str "jump", .str "back", .str "tail"]) = true then (1 : Int) else 0) = ndP ins := by
      rw [if_pos rfl, tagPut, ndP_put, Bool.not_not]
    rw [hput]
    refine ⟨_, _, _, rfl, ?_⟩
    refine ⟨_, _, _, _, rfl, (x4.trans x1012).trans x14, ?_⟩
    rw [← hm]
    show _ = dpOf es is (fd.drop (i + 1)) (match is[p.1.toNat]? with
      | none => mm
      | some i => max (max mm (p.2 - ndT es i + ndP i)) p.2)
    rw [hins]
    congr 1
    show max (max mm p.2) _ = max (max mm _) p.2
    omega
  · rintro _ H4 ⟨w6, w14, w15, mm, rfl, x4, hm⟩
    rw [List.drop_of_length_le (Nat.le_of_eq hdl.symm)] at hm
    have hm' : mm = dpOf es is fd 0 := hm
    refine ⟨x4 _ _ hfz, ?_⟩
    have x5 := hback _ x4
    have hT5 := hT.ex x5
    have C5 := hC.mono (Tx.of x5)
    refine ⟨_, rfl, c, e, sA, exs, ixs, es, is, rfl, C5, hok, hT5, fun z => by (rw [hfd] at z; cases z), fun f2 hf2 H6 X6 => ?_⟩
    rw [hfd] at hf2
    cases hf2
    refine ⟨_, rfl, _, _, rfl, ?_, fun H7 x7 => q H7⟩
    rw [hm']
    exact Sm.flat (.inr (.inl ⟨_, rfl⟩)) (by decide)
end

end M10
set_option Elab.async false
set_option linter.all false
set_option maxRecDepth 100000
set_option maxHeartbeats 4000000
namespace M10
open PySem PySem.Spec PyProof.Rows L2 Evl
theorem LamN.tx {Pl : Addr} {q : Str} {H H' : Hp} (t : LamX.TabS H Pl q) (h : LamN Pl H H') : Tx H H' := fun a xs e => h a _ (fun z => by
  obtain ⟨ps, h1, _⟩ := t
  rw [z, h1] at e
  cases e) e
theorem LamN.tgs {Pl : Addr} {Pt : List Addr} {H H' : Hp} (hn : Pl ∉ Pt) (h : LamN Pl H H') (t : TGs H Pt) : TGs H' Pt := fun p hp => by
  obtain ⟨ps, h1, h2⟩ := t p hp
  exact ⟨ps, h p _ (fun z => hn (z ▸ hp)) h1, h2⟩
theorem TbX.tab {Pl : Addr} {q : Str} {Pt : List Addr} {H H' : Hp} (hn : Pl ∉ Pt) (t : TGs H Pt) (h : TbX Pt H H') (s : LamX.TabS H Pl q) : LamX.TabS H' Pl q := by
  obtain ⟨ps, h1, h2, h3⟩ := s
  refine ⟨ps, h.2 _ _ hn h1, h2, fun pos cv hc => ?_⟩
  obtain ⟨c0, e1, e2⟩ := h3 pos cv hc
  refine ⟨c0, e1, h.2 _ _ (fun z => ?_) e2⟩
  obtain ⟨ps', k1, _⟩ := t c0 z
  rw [k1] at e2
  exact LamX.codeO_ne ps' (Option.some.inj e2).symm
theorem hts_flat (f : Fd) (n : Nat) : ∀ v ∈ htsOf f n, Flt1 v := fun v hv => by
  obtain ⟨k, _, rfl⟩ := List.mem_map.mp hv
  split
  · exact .inr (.inl ⟨_, rfl⟩)
  · exact .inl rfl
/-- what the lambdas of the law are called -/
abbrev lamQ : Str := (("law" : Str) ++ ".<locals>.") ++ "<lambda>"
section
variable {P : Program} {w : World} {K : PySem.W.Frag} {mg : Str → Option Value} {base : Heap}
theorem sc_law_told : FnScope ["_law_work", "e"] ["_law_work"] (defScope s_law_told) := ⟨rfl, rfl, rfl, by decide +kernel, rfl, by decide +kernel, by decide +kernel⟩
/-- what a lambda's body lets out is told -/
theorem pXL {X : Cx} {A : Around} {outer : List Env} {s : Shared} {H : Hp} {E : XK} {sc : Scope} {f c' : Addr} : Passes (L2.CX X.prog X.w) (LamX.lamCx X A outer s H E sc f c') E := passes_call (takes_of rfl rfl rfl rfl) fun _ _ _ _ h => h
/-- before statement 6: the heights are still to be asked -/
def S6 (PL : Addr) (Pt : List Addr) : TS := fun D σ H => ∃ (v0 v1 v2 v4 v5 v6 v7 v8 v9 v10 v11 v12 v13 v14 v15 v16 : Option V) (c e s : Addr) (exs ixs : List V) (es : List (Int × Int)) (is : List Ins),
  σ = [v0, v1, v2, some (.ref c), v4, v5, v6, v7, v8, v9, v10, v11, v12, v13, v14, v15, v16] ∧ CodeAt H c e s exs ixs es is ∧ CodeOk es is ∧ TGs H Pt ∧ LamX.TabS H PL lamQ ∧ ∀ H', D.rt (.bl true) H'
theorem law_s6 {f cl CE CS CU PL gT : Addr} {fdT : FuncData} {Pt : List Addr} {A : Around} {outer : List Env} {s : Shared} {H0 : Hp} {E : XK} (hr : Room 46 (A.deeper (envOfC "law" (defScope s_law) s.heap.objs.size f (.ref cl)))) (T : Tb K mg)
    (TC : TolC K mg CE CS CU) (TL : LamX.TabB base mg cl PL) (nPt : PL ∉ Pt) (FT : L2.Fun K "_law_told" "_law_told" s_law_told gT fdT) (mT : mg "_law_told" = some (.ref gT)) (bT : Binds K fdT ["_law_work"] [])
    (c_l_alike : Dn P w K mg base L2.CX0 2 "_law_alike" (spAl 2)) (c_l_heights : Dn P w K mg base L2.CX0 1 "_law_heights" spLH) (c_heights : Dn P w K mg base (L2.CX P w) 6 "heights" (spHts CU Pt)) (c_deepest : Dn P w K mg base (L2.CX P w) 6 "deepest" (spDeep CU Pt)) :
    PSs (LX P w K mg base f cl A outer s H0 E) ((defBody s_law).drop 6) (S6 PL Pt) := by
  have hu : (A.deeper (envOfC "law" (defScope s_law) s.heap.objs.size f (.ref cl))).units + 1 < cLine := by
    have := hr.un
    omega
  refine PSs.weak (pss_cons (sset 11 sc_law.nd (pe_c0 c_l_heights hr (pa_cons (pv 3) pa_nil)))
    (pss_cons (ps_if (pt_cmp (pc_isN (pv 11))) (pss_cons (sset 12 sc_law.nd (pe_lst (pa_cons (pe_told (k := 7) (Pl := PL) (q := lamQ) FT mT bT sc_law_told rfl (.inl rfl) rfl (fun _ => told_givesS TC) TL rfl hr (LamX.lamS_by (show LamX.lamSB (defScope s_law) _ = true by decide +kernel)) rfl (fun _ _ _ _ _ => rfl) (fun _ _ _ _ _ _ _ hr2 => pe_ce c_heights hr2 (by omega) pXL rfl (pa_cons (pv 3) pa_nil)) (by omega)) pa_nil)))
    (pss_cons (ps_expr (pe_bm PySem.F.plainAttrs_list PySem.F.slot_list_append PySem.F.type_list_append mt_append (pv 12) (pa_cons (pe_told (k := 7) (Pl := PL) (q := lamQ) FT mT bT sc_law_told rfl (.inl rfl) rfl (fun _ => told_givesS TC) TL rfl hr (LamX.lamS_by (show LamX.lamSB (defScope s_law) _ = true by decide +kernel)) rfl (fun _ _ _ _ _ => rfl) (fun _ _ _ _ _ _ _ hr2 => pe_ce c_deepest hr2 (by omega) pXL rfl (pa_cons (pv 3) pa_nil)) (by omega)) pa_nil)))
    (pss_one (ps_ret (pe_cmpR (op_eqDK (K := K) (hu64 hr)) (pv 12) (pe_op op_rep (pe_lst (pa_cons pe_str pa_nil)) pe_int) (nomark _)))))) pss_nil)
    (pss_cons (ps_if (pt_not (pt_val (pe_c0 c_l_alike hr (pa_cons (pe_cx c_heights hr pX (pa_cons (pv 3) pa_nil)) (pa_cons (pct call_tuple_of T.tuple (pa_cons (pe_lc (own := [("_law_k", 16)]) (g := (gName 16)) (tt := tYes) rfl sc_law.nd (pi_range1 rfl T.range (pa_cons (pcb call_len_seq T.len (pa_cons (pe_ix ix_tup (pv 3) pe_int (fun _ _ => rfl)) pa_nil)) pa_nil)) (blkOk_by (N := ["_law_script", "_law_row", "_law_plain_here", "_law_code_here", "_law_entries", "_law_some", "_law_at", "_law_other_row", "_law_other", "_law_lates_here", "_law_fuel", "_law_found", "_law_told_here", "_law_most", "_law_one", "_law_takes", "_law_k"]) (sc := defScope s_law) (by decide +kernel)) (fun _ _ _ _ _ => (gnm 16 sc_law.nd)) (fun _ _ _ _ _ => pts_nil) (fun _ _ _ _ _ => (pe_dget1 hu (pv 11) (pv 16) ⟨rfl, rfl, rfl, rfl⟩))) pa_nil)) pa_nil))))) (pss_one (ps_ret pe_bl)) pss_nil)
    (law_s9 hr T c_l_alike c_deepest)))) ?_
  rintro D σ H _ ⟨v0, v1, v2, v4, v5, v6, v7, v8, v9, v10, v11, v12, v13, v14, v15, v16, c, e, sA, exs, ixs, es, is, rfl, hC, hok, hT, hTS, q⟩
  refine ⟨_, rfl, c, e, sA, exs, ixs, es, is, rfl, hC, hok, fun z H1 x1 => ?_, fun fd hfd d H1 x1 hd hfl => ?_⟩
  · have TS1 := hTS.ext x1
    have T1 := hT.ex x1
    have C1 := hC.mono (Tx.of x1)
    refine ⟨_, rfl, _, rfl, ifT (decide_eq_true rfl) ?_⟩
    refine ⟨TS1, fun H2 LN2 TS2 => ?_⟩
    have C2 := C1.mono (LN2.tx TS1)
    have T2 := LN2.tgs nPt T1
    refine ⟨_, rfl, c, e, sA, exs, ixs, es, is, rfl, C2, hok, T2, fun _ H3 X3 => .inr ⟨rfl, rfl, ?_⟩, fun f hf => by (rw [z] at hf; cases hf)⟩
    have C3 := C2.mono (X3.tx T2)
    have TS3 := X3.tab nPt T2 TS2
    refine ⟨z1, ?_⟩
    intro p4 hp_p4
    generalize hG_p4 : upd _ p4 _ = H4
    obtain ⟨x4, g4⟩ := nw hp_p4 hG_p4
    have C4 := C3.mono (Tx.of x4)
    have T4 := X3.1.ex x4
    have TS4 := TS3.ext x4
    refine ⟨_, rfl, .inl ⟨rfl, _, SqL.of g4⟩, TS4, fun H5 LN5 TS5 => ?_⟩
    have C5 := C4.mono (LN5.tx TS4)
    have T5 := LN5.tgs nPt T4
    have g5 : H5 p4 = some (.lst [.str "unsound"]) := LN5 _ _ (fun z => by
      obtain ⟨ps, h1, _⟩ := TS4
      rw [z, h1] at g4
      cases g4) g4
    refine ⟨_, rfl, c, e, sA, exs, ixs, es, is, rfl, C5, hok, T5, fun _ H6 X6 => .inr ⟨rfl, rfl, ?_⟩, fun f hf => by (rw [z] at hf; cases hf)⟩
    have g6 : H6 p4 = some (.lst [.str "unsound"]) := X6.2 _ _ (fun z => by
      obtain ⟨ps, h1, _⟩ := T5 _ z
      rw [h1] at g5
      cases g5) g5
    refine ⟨p4, _, _, rfl, rfl, g6, sz' (by decide), ?_⟩
    have g7 : (upd H6 p4 (.lst ([.str "unsound"] ++ [.str "unsound"]))) p4 = some (.lst [.str "unsound", .str "unsound"]) := upd_same
    generalize upd H6 p4 (.lst ([.str "unsound"] ++ [.str "unsound"])) = H7 at g7
    refine ⟨_, rfl, z1, ?_⟩
    intro p8 hp_p8
    generalize hG_p8 : upd _ p8 _ = H8
    obtain ⟨x8, g8⟩ := nw hp_p8 hG_p8
    refine ⟨p8, _, _, rfl, rfl, g8, by decide, by decide, sz' (by decide), ?_⟩
    intro p9 hp_p9
    generalize hG_p9 : upd _ p9 _ = H9
    obtain ⟨x9, g9⟩ := nw hp_p9 hG_p9
    refine ⟨.list [.str "unsound", .str "unsound"], .list [.str "unsound", .str "unsound"], .lst (SqL.of (x9 _ _ (x8 _ _ g7))) (.cons (.str _) (.cons (.str _) .nil)), .lst (SqL.of g9) (.cons (.str _) (.cons (.str _) .nil)), by decide +kernel, by decide +kernel, ?_⟩
    rw [show PyData.eqv (.list [.str "unsound", .str "unsound"]) (.list [.str "unsound", .str "unsound"]) = true by decide +kernel]
    exact q H9
  · have TS1 := hTS.ext x1
    have T1 := hT.ex x1
    have C1 := hC.mono (Tx.of x1)
    refine ⟨_, rfl, _, rfl, ifF (decide_eq_false (fun z => nomatch z)) ?_⟩
    refine ⟨_, rfl, c, e, sA, exs, ixs, es, is, rfl, C1, hok, T1, fun z => by (rw [hfd] at z; cases z), fun f2 hf2 p2 H2 X2 g2 => ?_⟩
    rw [hfd] at hf2
    cases hf2
    have C2 := C1.mono (X2.tx T1)
    have T2 := X2.1
    have hd2 : H2 d = some (.dK (dK fd)) := X2.2 _ _ (fun z => by
      obtain ⟨ps, h1, _⟩ := T1 _ z
      rw [h1] at hd
      cases hd) hd
    have hls := C2.is.length
    have hil := hok.ilen
    refine ⟨_, rfl, c, _, _, _, rfl, rfl, SqT.of C2.c, rfl, sA, _, rfl, .inr (SqT.of C2.s), _, rfl, by omega, by omega, fun DD hD => ?_⟩
    have nd : d ≠ DD := ne_of_none hd2 hD
    refine lc_range (vs := [16]) (g := gName 16) (tt := tYes) (lo := 0) (n := ((ixs.length : Nat) : Int).toNat) (fun i H' => H' DD = some (.lst (htsOf fd i)) ∧ Kp DD H2 H') ⟨upd_same, Kp.put⟩ ?_ ?_
    · rintro i H3 hi ⟨hacc, kp⟩
      have hd3 := kp.ex hD _ _ hd2
      refine ⟨rfl, _, rfl, d, rfl, .inl ⟨_, .inl hd3⟩, _, rfl, _, DGet.k (k := .inl (0 + (i : Int))) hd3, ?_⟩
      rw [dK_get]
      refine ⟨_, hacc, sz' (by unfold htsOf; rw [List.length_map, List.length_range]; omega), ?_, kp.trans Kp.put⟩
      rw [upd_same]
      congr 2
      show _ = (List.range (i + 1)).map _
      rw [List.range_succ, List.map_append, Int.zero_add]
      congr 1
      exact congrArg (fun v => [v]) (hget fd (i : Int))
    · rintro H3 ⟨hacc, kp⟩
      refine ⟨DD, _, rfl, .inl ⟨SqL.of hacc, ?_⟩⟩
      intro p4 hp_p4
      generalize hG_p4 : upd _ p4 _ = H4
      obtain ⟨x4, g4⟩ := nw hp_p4 hG_p4
      have e1 : ((ixs.length : Nat) : Int).toNat = is.length := by omega
      rw [e1] at g4
      have x24 : Ex H2 H4 := (kp.ex hD).trans x4
      refine ⟨_, _, rfl, .inr ⟨by decide, p2, p4, _, rfl, rfl, x24 _ _ g2, g4, by unfold htsOf; rw [List.length_map, List.length_range]; exact hil, hts_flat _ _⟩, fun H5 x5 => ⟨_, rfl, ifF rfl ?_⟩⟩
      have x25 := x24.trans x5
      exact ⟨_, _, _, _, _, _, _, _, _, _, _, _, _, _, _, c, e, sA, d, exs, ixs, es, is, fd, rfl, C2.mono (Tx.of x25), hok, T2.ex x25, hfd, x25 _ _ hd2, hfl, q⟩
end

end M10
set_option Elab.async false
set_option linter.all false
set_option maxRecDepth 100000
set_option maxHeartbeats 4000000
namespace M10
open PySem PySem.Spec PyProof.Rows L2 Evl
/-- what a run gives, on the heap -/
def RV (r : RR2) (H : Hp) (v : V) : Prop := match r with
  | .none => v = .non
  | .stuck n => ∃ p, v = .ref p ∧ H p = some (.tup [.str "stuck", .int n])
  | .done a k mf ms => ∃ p, v = .ref p ∧ H p = some (.tup [.int a, .int k, .int mf, .int ms])
theorem RV.mono {r : RR2} {H H' : Hp} {v : V} (h : RV r H v) (t : Tx H H') : RV r H' v := by
  cases r with
  | none => exact h
  | stuck n =>
    obtain ⟨p, e, g⟩ := h
    exact ⟨p, e, t _ _ g⟩
  | done a k mf ms =>
    obtain ⟨p, e, g⟩ := h
    exact ⟨p, e, t _ _ g⟩
theorem RV.same {r : RR2} {H : Hp} {v v2 : V} (h : RV r H v) (h2 : RV r H v2) : Sm 2 H v v2 := by
  cases r with
  | none =>
    cases h
    cases h2
    exact .inl ⟨rfl, .inl rfl⟩
  | stuck n =>
    obtain ⟨p, rfl, g⟩ := h
    obtain ⟨p2, rfl, g2⟩ := h2
    refine .inr ⟨by decide, p, p2, _, rfl, rfl, g, g2, by simp, fun x hx => ?_⟩
    simp only [List.mem_cons, List.not_mem_nil, or_false] at hx
    rcases hx with rfl | rfl
    · exact .inr (.inr ⟨_, rfl⟩)
    · exact .inr (.inl ⟨_, rfl⟩)
  | done a k mf ms =>
    obtain ⟨p, rfl, g⟩ := h
    obtain ⟨p2, rfl, g2⟩ := h2
    refine .inr ⟨by decide, p, p2, _, rfl, rfl, g, g2, by simp, fun x hx => ?_⟩
    simp only [List.mem_cons, List.not_mem_nil, or_false] at hx
    rcases hx with rfl | rfl | rfl | rfl <;> exact .inr (.inl ⟨_, rfl⟩)
theorem run_told {CS CU : Addr} {Pt : List Addr} {H : Hp} {Q : VK} {c e s l : Addr} {exs ixs : List V} {es : List (Int × Int)} {is : List Ins} {ls : List Int} {F m0 : Int} {r0 : List (Int × Int)} (hC : CodeAt H c e s exs ixs es is) (hok : CodeOk es is) (hT : TGs H Pt) (hl : H l = some (.tup (ls.map V.int)))
    (hes : es = (0, m0) :: r0) (hlm : (ls.length : Int) = m0) (hl10 : ls.length ≤ 10) (hlv : ∀ n ∈ ls, 0 ≤ n ∧ n ≤ 1000000) (hF0 : 0 ≤ F) (hF1 : F ≤ 100000) (q : ∀ v H', TbX Pt H H' → RV (runM es is F.toNat 1 (S00 ls)) H' v → Q v H') :
    spRun CS Pt [.ref c, .ref l, .int F] H Q (fun cls d H' => (cls = .ref CS ∧ ∃ (dd : Addr) (n : Int), d = some dd ∧ H' dd = some (.xd [("address", .int n)]) ∧ ∀ (p : Addr) (H2 : Hp), Ex H' H2 → H2 p = some (.tup [.str "stuck", .int n]) → Q (.ref p) H2) ∨ (cls = .ref CU ∧ d = none ∧ Q (.str "unsound") H')) := by
  refine ⟨c, l, e, s, F, exs, ixs, es, is, ls, m0, r0, rfl, hC, hok, hT, hl, hes, hlm, hl10, hlv, hF0, hF1, fun z H' X => q _ _ X ?_, fun n z d H' X hd => .inl ⟨rfl, d, n, rfl, hd, fun p H2 x2 g2 => q _ _ (X.ex x2) ?_⟩, fun v k mf ms z p H' X g => q _ _ X ?_⟩
  · rw [z]
    rfl
  · rw [z]
    exact ⟨p, rfl, g2⟩
  · rw [z]
    exact ⟨p, rfl, g⟩
theorem run_mach {H : Hp} {Q : VK} {E : XK} {c e s l : Addr} {exs ixs : List V} {es : List (Int × Int)} {is : List Ins} {ls : List Int} {F : Int} (hC : CodeAt H c e s exs ixs es is) (hok : CodeOk es is) (hl : H l = some (.tup (ls.map V.int)))
    (hl10 : ls.length ≤ 10) (hlv : ∀ n ∈ ls, 0 ≤ n ∧ n ≤ 1000000) (hF0 : 0 ≤ F) (hF1 : F ≤ 100000) (q : ∀ v H', Ex H H' → RV (runM es is F.toNat 1 (S00 ls)) H' v → Q v H') : spLMach [.ref c, .ref l, .int F] H Q E := by
  refine ⟨c, l, e, s, F, exs, ixs, es, is, ls, rfl, hC, hok, hl, hl10, hlv, hF0, hF1, fun z H' X => q _ _ X ?_, fun n z p H' X g => q _ _ X ?_, fun v k mf ms z p H' X g => q _ _ X ?_⟩
  · rw [z]
    rfl
  · rw [z]
    exact ⟨p, rfl, g⟩
  · rw [z]
    exact ⟨p, rfl, g⟩
theorem Kp.tgs {r : Addr} {Pt : List Addr} {H H' : Hp} {xs : List V} (hr : H r = some (.lst xs)) (k : Kp r H H') (t : TGs H Pt) : TGs H' Pt := fun p hp => by
  obtain ⟨ps, h1, h2⟩ := t p hp
  exact ⟨ps, k _ _ (fun z => by (rw [z, hr] at h1; cases h1)) h1, h2⟩
theorem Kp.tab {r Pl : Addr} {q : Str} {H H' : Hp} {xs : List V} (hr : H r = some (.lst xs)) (k : Kp r H H') (t : LamX.TabS H Pl q) : LamX.TabS H' Pl q := by
  obtain ⟨ps, h1, h2, h3⟩ := t
  refine ⟨ps, k _ _ (fun z => by (rw [z, hr] at h1; cases h1)) h1, h2, fun pos cv hc => ?_⟩
  obtain ⟨c0, e1, e2⟩ := h3 pos cv hc
  refine ⟨c0, e1, k _ _ (fun z => ?_) e2⟩
  rw [z, hr] at e2
  unfold LamX.CodeO at e2
  cases e2
/-- the late numbers that the law draws -/
theorem l5_ok {n : Int} (h : V.int n ∈ [V.int 0, V.int 1, V.int 2, V.int 5, V.int 100]) : 0 ≤ n ∧ n ≤ 1000000 := by
  simp only [List.mem_cons, List.not_mem_nil, or_false, V.int.injEq] at h
  omega
theorem l6_ok {n : Int} (h : V.int n ∈ [V.int 0, V.int 1, V.int 5, V.int 20, V.int 90, V.int 200]) : 0 ≤ n ∧ n ≤ 100000 := by
  simp only [List.mem_cons, List.not_mem_nil, or_false, V.int.injEq] at h
  omega
section
variable {P : Program} {w : World} {K : PySem.W.Frag} {mg : Str → Option Value} {base : Heap}
/-- before statement 4: the late numbers and the fuel are still to be drawn -/
def S4 (K : PySem.W.Frag) (sa PL : Addr) (Pt : List Addr) : TS := fun D σ H => ∃ (v0 v2 v4 v5 v6 v7 v8 v9 v10 v11 v12 v13 v14 v15 v16 : Option V) (r c e s : Addr) (exs ixs : List V) (es : List (Int × Int)) (is : List Ins),
  σ = [v0, some (.ref r), v2, some (.ref c), v4, v5, v6, v7, v8, v9, v10, v11, v12, v13, v14, v15, v16] ∧ Row K sa H r ∧ CodeAt H c e s exs ixs es is ∧ CodeOk es is ∧ TGs H Pt ∧ LamX.TabS H PL lamQ ∧ ∀ H', D.rt (.bl true) H'
theorem law_s4 {f cl CE CS CU PL gT sa : Addr} {fdT : FuncData} {Pt : List Addr} {A : Around} {outer : List Env} {s : Shared} {H0 : Hp} {E : XK} (hr : Room 46 (A.deeper (envOfC "law" (defScope s_law) s.heap.objs.size f (.ref cl)))) (T : Tb K mg)
    (TC : TolC K mg CE CS CU) (TL : LamX.TabB base mg cl PL) (nPt : PL ∉ Pt) (FT : L2.Fun K "_law_told" "_law_told" s_law_told gT fdT) (mT : mg "_law_told" = some (.ref gT)) (bT : Binds K fdT ["_law_work"] [])
    (c_l_alike : Dn P w K mg base L2.CX0 2 "_law_alike" (spAl 2)) (c_l_heights : Dn P w K mg base L2.CX0 1 "_law_heights" spLH) (c_heights : Dn P w K mg base (L2.CX P w) 6 "heights" (spHts CU Pt)) (c_deepest : Dn P w K mg base (L2.CX P w) 6 "deepest" (spDeep CU Pt))
    (c_l_pick : Dn P w K mg base L2.CX0 2 "_law_pick" (spPick K sa)) (c_l_machine : Dn P w K mg base L2.CX0 2 "_law_machine" spLMach) (c_machine_run : Dn P w K mg base (L2.CX P w) 7 "machine_run" (spRun CS Pt)) :
    PSs (LX P w K mg base f cl A outer s H0 E) ((defBody s_law).drop 4) (S4 K sa PL Pt) := by
  refine PSs.weak (pss_cons (ps_asg (pe_tup (pa_cons (pct call_tuple_of T.tuple (pa_cons (pe_lc (own := [("_law_k", 16)]) (g := (gName 16)) (tt := tYes) rfl sc_law.nd (pi_range1 rfl T.range (pa_cons (pe_ix ix_tup (pe_ix ix_tup (pe_ix ix_tup (pv 3) pe_int (fun _ _ => rfl)) pe_int (fun _ _ => rfl)) pe_int (fun _ _ => rfl)) pa_nil)) (blkOk_by (N := ["_law_script", "_law_row", "_law_plain_here", "_law_code_here", "_law_entries", "_law_some", "_law_at", "_law_other_row", "_law_other", "_law_lates_here", "_law_fuel", "_law_found", "_law_told_here", "_law_most", "_law_one", "_law_takes", "_law_k"]) (sc := defScope s_law) (by decide +kernel)) (fun _ _ _ _ _ => (gnm 16 sc_law.nd)) (fun _ _ _ _ _ => pts_nil) (fun _ _ _ _ _ => (pe_c0 c_l_pick hr (pa_cons (pv 1) (pa_cons (pe_lst (pa_cons pe_int (pa_cons pe_int (pa_cons pe_int (pa_cons pe_int (pa_cons pe_int pa_nil)))))) pa_nil))))) pa_nil)) (pa_cons (pe_c0 c_l_pick hr (pa_cons (pv 1) (pa_cons (pe_lst (pa_cons pe_int (pa_cons pe_int (pa_cons pe_int (pa_cons pe_int (pa_cons pe_int (pa_cons pe_int pa_nil))))))) pa_nil))) pa_nil))) (pg_tup rfl (pgs_cons (gnm 9 sc_law.nd) (pgs_cons (gnm 10 sc_law.nd) pgs_nil))))
    (pss_cons (ps_if (pt_not (pt_val (pe_c0 c_l_alike hr (pa_cons (pe_told (k := 7) (Pl := PL) (q := lamQ) FT mT bT sc_law_told rfl (.inl rfl) rfl (fun _ => told_givesS TC) TL rfl hr (LamX.lamS_by (show LamX.lamSB (defScope s_law) _ = true by decide +kernel)) rfl (fun _ _ _ _ _ => rfl) (fun _ _ _ _ _ _ _ hr2 => pe_ce c_machine_run hr2 (by omega) pXL rfl (pa_cons (pv 3) (pa_cons (pv 9) (pa_cons (pv 10) pa_nil)))) (by omega)) (pa_cons (pe_c0 c_l_machine hr (pa_cons (pv 3) (pa_cons (pv 9) (pa_cons (pv 10) pa_nil)))) pa_nil))))) (pss_one (ps_ret pe_bl)) pss_nil)
    (law_s6 hr T TC TL nPt FT mT bT c_l_alike c_l_heights c_heights c_deepest))) ?_
  rintro D σ H _ ⟨v0, v2, v4, v5, v6, v7, v8, v9, v10, v11, v12, v13, v14, v15, v16, r, c, e, sA, exs, ixs, es, is, rfl, hR, hC, hok, hT, hTS, q⟩
  obtain ⟨m0, r0, hes⟩ := hok.hd
  obtain ⟨b0, hb1, hb2⟩ := hC.es.get (i := 0) (e := (0, m0)) (by rw [hes] <;> rfl)
  have hm0 := hok.ent (0, m0) (by rw [hes]; exact List.mem_cons_self)
  obtain ⟨_, _, hm1, hm2⟩ := hm0
  have hm1 : 0 ≤ m0 := hm1
  have hm2 : m0 ≤ 2 := hm2
  refine ⟨_, rfl, c, _, _, _, rfl, rfl, SqT.of hC.c, rfl, e, _, _, .ref b0, rfl, rfl, SqT.of hC.e, atI_nat (j := 0) hb1, b0, _, _, _, rfl, rfl, SqT.of hb2, rfl, _, rfl, by omega, by omega, fun DD hD => ?_⟩
  obtain ⟨lx, hrl⟩ := hR.lst
  refine lc_range (vs := [16]) (g := gName 16) (tt := tYes) (lo := 0) (n := m0.toNat) (fun i H' => ∃ ls : List Int, H' DD = some (.lst (ls.map V.int)) ∧ ls.length = i ∧ (∀ n ∈ ls, 0 ≤ n ∧ n ≤ 1000000) ∧ DD ≠ r ∧ Dr K sa r H H')
    ⟨[], upd_same, rfl, fun n hn => absurd hn List.not_mem_nil, row_ne hR hD, (Dr.refl hR).new hD⟩ ?_ ?_
  · rintro i H1 hi ⟨ls, hls, hll, hlv, hDr, d1⟩
    refine ⟨rfl, _, rfl, z5, ?_⟩
    intro b hp_b
    generalize hG_b : upd _ b _ = H2
    obtain ⟨x2, g2⟩ := nw hp_b hG_b
    refine ⟨r, b, _, rfl, d1.row.ex x2, .inl (SqL.of g2), row_ne d1.row hp_b, (fun z => nomatch z), by decide, fun H3 v d3 hv => ?_⟩
    obtain ⟨n, rfl⟩ : ∃ n, v = .int n := by
      simp only [List.mem_cons, List.not_mem_nil, or_false] at hv
      rcases hv with rfl | rfl | rfl | rfl | rfl <;> exact ⟨_, rfl⟩
    have d13 := (d1.ex x2).trans d3
    have hls3 := d3.kp _ _ hDr (x2 _ _ hls)
    refine ⟨_, hls3, sz' (by rw [List.length_map]; omega), ls ++ [n], ?_, by rw [List.length_append, List.length_singleton, hll], fun k hk => ?_, hDr, (Dr.refl hR).own hD d13⟩
    · rw [upd_same, List.map_append]
      rfl
    · rcases List.mem_append.mp hk with hk | hk
      · exact hlv k hk
      · rw [List.mem_singleton.mp hk]
        exact l5_ok hv
  · rintro H1 ⟨ls, hls, hll, hlv, hDr, d1⟩
    refine ⟨DD, _, rfl, .inl ⟨SqL.of hls, ?_⟩⟩
    intro l hp_l
    generalize hG_l : upd _ l _ = H2
    obtain ⟨x2, g2⟩ := nw hp_l hG_l
    refine ⟨_, rfl, z6, ?_⟩
    intro b hp_b
    generalize hG_b : upd _ b _ = H3
    obtain ⟨x3, g3⟩ := nw hp_b hG_b
    have x23 := x2.trans x3
    refine ⟨r, b, _, rfl, d1.row.ex x23, .inl (SqL.of g3), row_ne (d1.row.ex x2) hp_b, (fun z => nomatch z), by decide, fun H4 v d4 hv => ?_⟩
    obtain ⟨F, rfl⟩ : ∃ n, v = .int n := by
      simp only [List.mem_cons, List.not_mem_nil, or_false] at hv
      rcases hv with rfl | rfl | rfl | rfl | rfl | rfl <;> exact ⟨_, rfl⟩
    obtain ⟨F0, F1⟩ := l6_ok hv
    have d14 := (d1.ex x23).trans d4
    have hl4 := d4.tx (d1.row.ex x23) _ _ (x3 _ _ g2)
    refine ⟨z2, ?_⟩
    intro p hp_p
    generalize hG_p : upd _ p _ = H5
    obtain ⟨x5, g5⟩ := nw hp_p hG_p
    refine ⟨p, _, rfl, SqT.of g5, rfl, _, _, rfl, _, _, rfl, rfl, ?_⟩
    have tx5 : Tx H H5 := fun a xs h => x5 _ _ (d14.tx hR _ _ h)
    have C5 := hC.mono tx5
    have T5 := (Kp.tgs hrl d14.kp hT).ex x5
    have TS5 := (Kp.tab hrl d14.kp hTS).ext x5
    have hl5 := x5 _ _ hl4
    have hlm : (ls.length : Int) = m0 := by omega
    refine ⟨TS5, fun H6 LN6 TS6 => ?_⟩
    have C6 := C5.mono (LN6.tx TS5)
    have T6 := LN6.tgs nPt T5
    have hl6 := LN6.tx TS5 _ _ hl5
    refine ⟨_, rfl, _, rfl, _, rfl, ?_⟩
    dsimp only [tNil]
    refine run_told C6 hok T6 hl6 hes hlm (by omega) hlv F0 F1 (fun v1 H7 X7 hv1 => ?_)
    have C7 := C6.mono (X7.tx T6)
    have T7 := X7.1
    have TS7 := X7.tab nPt T6 TS6
    have hl7 := X7.tx T6 _ _ hl6
    refine ⟨_, rfl, _, rfl, _, rfl, ?_⟩
    dsimp only [tNil]
    refine run_mach C7 hok hl7 (by omega) hlv F0 F1 (fun v2 H8 x8 hv2 => ?_)
    refine ⟨_, _, rfl, (hv1.mono (Tx.of x8)).same hv2, fun H9 x9 => ⟨_, rfl, ifF rfl ?_⟩⟩
    have x89 := x8.trans x9
    exact ⟨_, _, _, _, _, _, _, _, _, _, _, _, _, _, _, _, c, e, sA, exs, ixs, es, is, rfl, C7.mono (Tx.of x89), hok, T7.ex x89, TS7.ext x89, q⟩
end

end M10
set_option Elab.async false
set_option linter.all false
set_option maxRecDepth 100000
set_option maxHeartbeats 4000000
namespace M10
open PySem PySem.Spec PyProof.Rows L2 Evl
theorem cut_take {xs : List V} {k : Nat} (hk : k ≤ xs.length) : cutV xs none (some (k : Int)) = xs.take k := by
  unfold cutV
  rw [HT.sIx_nat, HT.sIx_none, List.drop_zero, Nat.sub_zero, Nat.min_eq_left hk]
theorem cut_drop {xs : List V} {k : Nat} (hk : k ≤ xs.length) : cutV xs (some (k : Int)) none = xs.drop k := by
  unfold cutV
  rw [HT.sIx_nat, HT.sIx_none, Nat.min_eq_left hk, List.take_of_length_le (by rw [List.length_drop]; exact Nat.le_refl _)]
theorem sl_take {K : PySem.W.Frag} {H : Hp} {s : Addr} {xs : List V} {k : Nat} {Q : VK} (hs : H s = some (.tup xs)) (hk : k ≤ xs.length) (q : ∀ a1 H', Ex H H' → H' a1 = some (.tup (xs.take k)) → Q (.ref a1) H') : rSlA K (.ref s) none (some (k : Int)) H Q := by
  refine ⟨s, xs, rfl, SqT.of hs, fun h => ?_, fun _ p hp => q p _ (Ex.new hp) (by rw [upd_same, cut_take hk])⟩
  have h2 := h.2
  rw [HT.sIx_nat] at h2
  exact q s H (Ex.refl _) (by rw [List.take_of_length_le (by omega)]; exact hs)
theorem sl_drop {K : PySem.W.Frag} {H : Hp} {s : Addr} {xs : List V} {k : Nat} {Q : VK} (hs : H s = some (.tup xs)) (hk : k ≤ xs.length) (q : ∀ a1 H', Ex H H' → H' a1 = some (.tup (xs.drop k)) → Q (.ref a1) H') : rSlA K (.ref s) (some (k : Int)) none H Q := by
  refine ⟨s, xs, rfl, SqT.of hs, fun h => ?_, fun _ p hp => q p _ (Ex.new hp) (by rw [upd_same, cut_drop hk])⟩
  have h1 := h.1
  rw [HT.sIx_nat] at h1
  have hk0 : k = 0 := by omega
  exact q s H (Ex.refl _) (by rw [hk0, List.drop_zero]; exact hs)
theorem cat_key {K : PySem.W.Frag} {H : Hp} {a b : Addr} {xs ys : List V} {Q : VK} (ha : H a = some (.tup xs)) (hb : H b = some (.tup ys)) (hl : xs.length + ys.length ≤ sizeLine) (q : ∀ p H', Ex H H' → H' p = some (.tup (xs ++ ys)) → Q (.ref p) H') : rCatA K (.ref a) (.ref b) H Q := by
  refine ⟨a, b, xs, ys, rfl, rfl, SqT.of ha, SqT.of hb, hl, fun z => ?_, fun _ z => ?_, fun _ _ p hp => q p _ (Ex.new hp) upd_same⟩
  · subst z
    exact q b H (Ex.refl _) hb
  · subst z
    exact q a H (Ex.refl _) (by rw [List.append_nil]; exact ha)
theorem inss_take {H : Hp} : ∀ {xs : List V} {is : List Ins} (k : Nat), InssAt H xs is → InssAt H (xs.take k) (is.take k)
  | _, _, 0, _ => .nil
  | [], _, k + 1, h => by
    cases h
    exact .nil
  | x :: xs, _, k + 1, h => by
    cases h with
    | cons h1 h2 => exact .cons h1 (inss_take k h2)
theorem inss_drop {H : Hp} : ∀ {xs : List V} {is : List Ins} (k : Nat), InssAt H xs is → InssAt H (xs.drop k) (is.drop k)
  | _, _, 0, h => h
  | [], _, k + 1, h => by
    cases h
    exact .nil
  | x :: xs, _, k + 1, h => by
    cases h with
    | cons h1 h2 => exact inss_drop k h2
/-- a code with one instruction changed is in order, too -/
theorem CodeOk.change {es : List (Int × Int)} {is : List Ins} {i : Ins} {k : Nat} (h : CodeOk es is) (hk : k < is.length) (hi : i.ok es.length ((is.length : Int) - 1)) : CodeOk es ((is.take k ++ [i]) ++ is.drop (k + 1)) := by
  have hl : ((is.take k ++ [i]) ++ is.drop (k + 1)).length = is.length := by
    simp only [List.length_append, List.length_take, List.length_drop, List.length_singleton]
    omega
  refine ⟨h.hd, h.elen, h.inc, fun e he => ?_, ?_, by rw [hl]; exact h.ilen⟩
  · rw [hl]
    exact h.ent e he
  · rw [hl]
    refine (AllOk.app ?_ (AllOk.one hi)).app ?_
    · exact fun j hj => h.ins j (List.mem_of_mem_take hj)
    · exact fun j hj => h.ins j (List.mem_of_mem_drop hj)
/-- the law keeps its promise -/
def spLaw (K : PySem.W.Frag) (PL : Addr) (Pt : List Addr) : Sp := fun vs H Q _ => ∃ (sa : Addr) (ns : List Int), vs = [.ref sa] ∧ H PL = some (.tbl #[]) ∧ (∀ p ∈ Pt, H p = some (.tbl #[])) ∧ SqL K H sa (ns.map V.int) ∧ ∀ H', Q (.bl true) H'
section
variable {P : Program} {w : World} {K : PySem.W.Frag} {mg : Str → Option Value} {base : Heap}
theorem fun_okG {CX : CXT} {x : Str} {sp : Sp} {k : Nat} {st : Stmt} {N ps : List Str} {f c : Addr} {fd : FuncData} (F : L2.Fun K x x st f fd) (hc : fd.code = .ref c) (S : FnScope N ps (defScope st)) (len : ∀ vs H Q E, sp vs H Q E → vs.length = ps.length)
    (hbody : ∀ (A : Around) (outer : List Env) (s : Shared) (H : Hp) (vs : List V) (Q : VK) (E : XK), Room k (A.deeper (envOfC x (defScope st) s.heap.objs.size f (.ref c))) → sp vs H Q E →
      ∃ t, PSs (cxOf CX P w K mg base N x (defScope st) f (.ref c) A outer s H E) (defBody st) t ∧ t { nx := fun _ H' => Q .non H', rt := Q } (start N vs) H) : FnOk P w K mg base CX (k + 1) f fd ps sp := by
  obtain ⟨oc, od, kV, doc, pm, an, cdv, ct, osl, rfl, lk, hcd⟩ := F.ex
  cases (show cdv = .ref c from hc)
  exact fn_of lk hcd S len fun A outer s H vs Q E hr h => hbody A outer s H vs Q E hr h
theorem ok_law {f cl CE CS CU PL gT : Addr} {fd fdT : FuncData} {Pt : List Addr} (F : L2.Fun K "law" "law" s_law f fd) (hcl : fd.code = .ref cl) (T : Tb K mg)
    (TC : TolC K mg CE CS CU) (TL : LamX.TabB base mg cl PL) (nPt : PL ∉ Pt) (FT : L2.Fun K "_law_told" "_law_told" s_law_told gT fdT) (mT : mg "_law_told" = some (.ref gT)) (bT : Binds K fdT ["_law_work"] [])
    (c_l_alike : Dn P w K mg base L2.CX0 2 "_law_alike" (spAl 2)) (c_l_heights : Dn P w K mg base L2.CX0 1 "_law_heights" spLH) (c_heights : Dn P w K mg base (L2.CX P w) 6 "heights" (spHts CU Pt)) (c_deepest : Dn P w K mg base (L2.CX P w) 6 "deepest" (spDeep CU Pt))
    (c_l_machine : Dn P w K mg base L2.CX0 2 "_law_machine" spLMach) (c_machine_run : Dn P w K mg base (L2.CX P w) 7 "machine_run" (spRun CS Pt)) (c_l_code : Dn P w K mg base L2.CX0 13 "_law_code" spCode)
    (plain' : ∀ sa, Dn P w K mg base L2.CX0 46 "_law_plain" (spPlain K sa)) (pick' : ∀ sa, Dn P w K mg base L2.CX0 2 "_law_pick" (spPick K sa)) (taken' : ∀ sa, Dn P w K mg base L2.CX0 1 "_law_taken" (spTaken K sa)) :
    FnOk P w K mg base (L2.CX P w) 47 f fd ["_law_script"] (spLaw K PL Pt) := by
  refine fun_okG F hcl sc_law (fun vs H Q E h => by obtain ⟨sa, ns, rfl, _⟩ := h; rfl) (fun A outer s H vs Q E hr h => ?_)
  obtain ⟨sa, ns, rfl, hPL, hPt, hS, q⟩ := h
  have c_l_plain := plain' sa
  have c_l_pick := pick' sa
  have c_l_taken := taken' sa
  refine ⟨_, (pss_cons (sset 1 sc_law.nd (pe_lst (pa_cons (pv 0) (pa_cons pe_int (pa_cons pe_int (pa_cons pe_int pa_nil))))))
    (pss_cons (sset 2 sc_law.nd (pe_c0 c_l_plain hr (pa_cons (pv 1) (pa_cons pe_int pa_nil))))
    (pss_cons (sset 3 sc_law.nd (pe_c0 c_l_code hr (pa_cons (pv 2) pa_nil)))
    (pss_cons (ps_if (pt_cmpR op_eq (pe_c0 c_l_taken hr (pa_cons (pv 1) (pa_cons pe_int pa_nil))) pe_int (nomark _)) (pss_cons (ps_asg (pv 3) (pg_tup rfl (pgs_cons (gnm 4 sc_law.nd) (pgs_cons (gnm 5 sc_law.nd) pgs_nil))))
    (pss_cons (sset 6 sc_law.nd (pe_c0 c_l_taken hr (pa_cons (pv 1) (pa_cons (pcb call_len_seq T.len (pa_cons (pv 5) pa_nil)) pa_nil))))
    (pss_cons (sset 7 sc_law.nd (pe_lst (pa_cons (pe_tup (pa_cons pe_str (pa_cons pe_int pa_nil))) (pa_cons (pe_tup (pa_cons pe_str (pa_cons pe_int pa_nil))) (pa_cons (pe_tup (pa_cons pe_str (pa_cons pe_int pa_nil))) (pa_cons (pe_tup (pa_cons pe_str pa_nil)) (pa_cons (pe_tup (pa_cons pe_str pa_nil)) (pa_cons (pe_tup (pa_cons pe_str pa_nil)) (pa_cons (pe_tup (pa_cons pe_str (pa_cons (pv 6) pa_nil))) (pa_cons (pe_tup (pa_cons pe_str (pa_cons pe_int pa_nil))) (pa_cons (pe_tup (pa_cons pe_str (pa_cons pe_int pa_nil))) pa_nil)))))))))))
    (pss_cons (sset 7 sc_law.nd (pe_op op_cat (pv 7) (pe_lst (pa_cons (pe_tup (pa_cons pe_str (pa_cons pe_int pa_nil))) pa_nil))))
    (pss_cons (sset 8 sc_law.nd (pe_c0 c_l_pick hr (pa_cons (pv 1) (pa_cons (pv 7) pa_nil))))
    (pss_one (sset 3 sc_law.nd (pe_tup (pa_cons (pv 4) (pa_cons (pe_op op_catA (pe_op op_catA (pe_slice (sl_tupA) (pv 5) po_none (po_some (pv 6))) (pe_tup (pa_cons (pv 8) pa_nil))) (pe_slice (sl_tupA) (pv 5) (po_some (pe_op op_add (pv 6) pe_int)) po_none)) pa_nil)))))))))) pss_nil)
    (law_s4 hr T TC TL nPt FT mT bT c_l_alike c_l_heights c_heights c_deepest c_l_pick c_l_machine c_machine_run))))), ?_⟩
  have hTS : LamX.TabS H PL lamQ := LamX.TabS.nil hPL
  have hT : TGs H Pt := fun p hp => ⟨#[], hPt p hp, trivial⟩
  refine ⟨_, rfl, z4, ?_⟩
  intro r hp_r
  generalize hG_r : upd _ r _ = H1
  obtain ⟨x1, g1⟩ := nw hp_r hG_r
  have nr : Nr K sa r (ns.map V.int) := by
    rcases hS with (h | ⟨_, h⟩) | h
    · exact .inl (ne_of_none h hp_r)
    · exact .inl (ne_of_none h hp_r)
    · exact .inr fun _ => .inr h
  have R1 : Row K sa H1 r := ⟨ns, 0, 14010, 0, g1, ex_l x1 hS, nr, by decide, by decide, by decide⟩
  have T1 := hT.ex x1
  have TS1 := hTS.ext x1
  refine ⟨_, rfl, r, rfl, R1, fun H2 l xs pl d2 hl hF hW => ?_⟩
  have T2 := Kp.tgs g1 d2.kp T1
  have TS2 := Kp.tab g1 d2.kp TS1
  refine ⟨_, rfl, l, xs, pl, rfl, hl, hF, hW, fun H3 c e sA exs ixs es is x3 hC hok => ?_⟩
  have R3 := d2.row.ex x3
  have T3 := T2.ex x3
  have TS3 := TS2.ext x3
  obtain ⟨lx, hrl⟩ := R3.lst
  refine ⟨_, rfl, r, _, rfl, R3, by decide, by decide, fun H4 n d4 n0 n1 => ?_⟩
  have C4 := hC.mono (d4.tx R3)
  have T4 := Kp.tgs hrl d4.kp T3
  have TS4 := Kp.tab hrl d4.kp TS3
  refine ⟨rfl, _, rfl, if2 (fun z => ?_) (fun z => ?_)⟩
  · have hn0 : n < 2 := n1
    refine ⟨_, rfl, c, _, rfl, SqT.of C4.c, rfl, _, _, rfl, _, _, rfl, rfl, ?_⟩
    have hls := C4.is.length
    have hpos := hok.ipos
    have hil := hok.ilen
    refine ⟨_, rfl, _, rfl, sA, _, rfl, .inr (SqT.of C4.s), r, _, rfl, d4.row, by omega, by omega, fun H5 at_ d5 a0 a1 => ?_⟩
    have C5 := C4.mono (d5.tx d4.row)
    obtain ⟨lx4, hrl4⟩ := d4.row.lst
    have T5 := Kp.tgs hrl4 d5.kp T4
    have TS5 := Kp.tab hrl4 d5.kp TS4
    obtain ⟨k, rfl⟩ : ∃ k : Nat, at_ = (k : Int) := ⟨at_.toNat, by omega⟩
    have hk : k < is.length := by omega
    refine ⟨z2, ?_⟩
    intro o1 hp_o1
    generalize hG_o1 : upd _ o1 _ = J1
    obtain ⟨y1, w1⟩ := nw hp_o1 hG_o1
    refine ⟨z2, ?_⟩
    intro o2 hp_o2
    generalize hG_o2 : upd _ o2 _ = J2
    obtain ⟨y2, w2⟩ := nw hp_o2 hG_o2
    refine ⟨z2, ?_⟩
    intro o3 hp_o3
    generalize hG_o3 : upd _ o3 _ = J3
    obtain ⟨y3, w3⟩ := nw hp_o3 hG_o3
    refine ⟨z1, ?_⟩
    intro o4 hp_o4
    generalize hG_o4 : upd _ o4 _ = J4
    obtain ⟨y4, w4⟩ := nw hp_o4 hG_o4
    refine ⟨z1, ?_⟩
    intro o5 hp_o5
    generalize hG_o5 : upd _ o5 _ = J5
    obtain ⟨y5, w5⟩ := nw hp_o5 hG_o5
    refine ⟨z1, ?_⟩
    intro o6 hp_o6
    generalize hG_o6 : upd _ o6 _ = J6
    obtain ⟨y6, w6⟩ := nw hp_o6 hG_o6
    refine ⟨_, rfl, z2, ?_⟩
    intro o7 hp_o7
    generalize hG_o7 : upd _ o7 _ = J7
    obtain ⟨y7, w7⟩ := nw hp_o7 hG_o7
    refine ⟨z2, ?_⟩
    intro o8 hp_o8
    generalize hG_o8 : upd _ o8 _ = J8
    obtain ⟨y8, w8⟩ := nw hp_o8 hG_o8
    refine ⟨z2, ?_⟩
    intro o9 hp_o9
    generalize hG_o9 : upd _ o9 _ = J9
    obtain ⟨y9, w9⟩ := nw hp_o9 hG_o9
    refine ⟨sz' (by simp), ?_⟩
    intro ol hp_ol
    generalize hG_ol : upd _ ol _ = J10
    obtain ⟨y10, w10⟩ := nw hp_ol hG_ol
    refine ⟨_, rfl, z2, ?_⟩
    intro o10 hp_o10
    generalize hG_o10 : upd _ o10 _ = J11
    obtain ⟨y11, w11⟩ := nw hp_o10 hG_o10
    refine ⟨z1, ?_⟩
    intro oz hp_oz
    generalize hG_oz : upd _ oz _ = J12
    obtain ⟨y12, w12⟩ := nw hp_oz hG_oz
    refine ⟨ol, oz, _, _, rfl, rfl, y12 _ _ (y11 _ _ w10), w12, sz' (by simp), ?_⟩
    intro om hp_om
    generalize hG_om : upd _ om _ = J13
    obtain ⟨y13, w13⟩ := nw hp_om hG_om
    have e12 := y12.trans y13
    have e11 := y11.trans e12
    have e10 := y10.trans e11
    have e9 := y9.trans e10
    have e8 := y8.trans e9
    have e7 := y7.trans e8
    have e6 := y6.trans e7
    have e5 := y5.trans e6
    have e4 := y4.trans e5
    have e3 := y3.trans e4
    have e2 := y2.trans e3
    have e1 := y1.trans e2
    have R13 := d5.row.ex e1
    have C13 := C5.mono (Tx.of e1)
    have T13 := T5.ex e1
    have TS13 := TS5.ext e1
    have hee : 1 ≤ es.length := by
      obtain ⟨m, r, h⟩ := hok.hd
      rw [h, List.length_cons]
      omega
    refine ⟨_, rfl, _, rfl, r, om, _, rfl, R13, .inl (SqL.of w13), row_ne (d5.row.ex (((((((((((y1.trans y2).trans y3).trans y4).trans y5).trans y6).trans y7).trans y8).trans y9).trans y10).trans y11).trans y12)) hp_om, (fun z => nomatch z), (by simp), fun H6 v d6 hv => ?_⟩
    have hI : ∃ (o : Addr) (ii : Ins), v = .ref o ∧ J13 o = some (.tup ii.v) ∧ ii.ok es.length ((is.length : Int) - 1) := by
      simp only [List.cons_append, List.nil_append, List.mem_cons, List.not_mem_nil, or_false] at hv
      rcases hv with rfl | rfl | rfl | rfl | rfl | rfl | rfl | rfl | rfl | rfl
      · exact ⟨o1, .push 1, rfl, e2 _ _ w1, by decide, by decide +kernel⟩
      · exact ⟨o2, .arg 0, rfl, e3 _ _ w2, by decide, by decide⟩
      · exact ⟨o3, .arg 3, rfl, e4 _ _ w3, by decide, by decide⟩
      · exact ⟨o4, .op .plus, rfl, e5 _ _ w4, trivial⟩
      · exact ⟨o5, .op .less, rfl, e6 _ _ w5, trivial⟩
      · exact ⟨o6, .back, rfl, e7 _ _ w6, trivial⟩
      · exact ⟨o7, .jump (k : Int), rfl, e8 _ _ w7, (by omega : (0 : Int) ≤ k), (by omega : (k : Int) ≤ (is.length : Int) - 1)⟩
      · exact ⟨o8, .zero 0, rfl, e9 _ _ w8, (by omega : (0 : Int) ≤ 0), (by omega : (0 : Int) ≤ (is.length : Int) - 1)⟩
      · exact ⟨o9, .call 0, rfl, e10 _ _ w9, (by omega : (0 : Int) ≤ 0), (by omega : (0 : Int) < (es.length : Int))⟩
      · exact ⟨o10, .tail 0, rfl, e12 _ _ w11, (by omega : (0 : Int) ≤ 0), (by omega : (0 : Int) < (es.length : Int))⟩
    obtain ⟨o, ii, rfl, ho, hio⟩ := hI
    have t6 := d6.tx R13
    have C6 := C13.mono t6
    obtain ⟨lx13, hrl13⟩ := R13.lst
    have T6 := Kp.tgs hrl13 d6.kp T13
    have TS6 := Kp.tab hrl13 d6.kp TS13
    have ho6 := t6 _ _ ho
    refine ⟨_, rfl, ?_⟩
    refine ⟨_, rfl, _, rfl, _, rfl, ?_⟩
    refine sl_take C6.s (by omega) (fun a1 H7 x7 g7 => ?_)
    refine ⟨_, rfl, z1, ?_⟩
    intro ot hp_ot
    generalize hG_ot : upd _ ot _ = H8
    obtain ⟨x8, g8⟩ := nw hp_ot hG_ot
    refine cat_key (x8 _ _ g7) g8 (sz' (by simp; omega)) (fun a2 H9 x9 g9 => ?_)
    have x79 := (x7.trans x8).trans x9
    refine ⟨_, rfl, _, rfl, _, _, rfl, rfl, _, rfl, ?_⟩
    dsimp only [tNoPart]
    refine sl_drop (k := k + 1) (x79 _ _ C6.s) (by omega) (fun a3 H10 x10 g10 => ?_)
    have g9' := x10 _ _ g9
    have hsz : (List.take k ixs ++ [V.ref o]).length + (List.drop (k + 1) ixs).length ≤ sizeLine := by
      refine sz ?_
      rw [List.length_append, List.length_take, List.length_drop, List.length_singleton]
      omega
    refine cat_key g9' g10 hsz (fun a4 H11 x11 g11 => ?_)
    refine ⟨z2, ?_⟩
    intro cN hp_cN
    generalize hG_cN : upd _ cN _ = H12
    obtain ⟨x12, g12⟩ := nw hp_cN hG_cN
    have x712 := ((x79.trans x10).trans x11).trans x12
    have tx := Tx.of x712
    have CN : CodeAt H12 cN e a4 exs ((ixs.take k ++ [.ref o]) ++ ixs.drop (k + 1)) es ((is.take k ++ [ii]) ++ is.drop (k + 1)) :=
      ⟨g12, x712 _ _ C6.e, x12 _ _ g11, C6.es.mono tx, Paired.app (Paired.app (inss_take k (C6.is.mono tx)) (.cons ⟨o, rfl, x712 _ _ ho6⟩ .nil)) (inss_drop (k + 1) (C6.is.mono tx))⟩
    exact ⟨_, _, _, _, _, _, _, _, _, _, _, _, _, _, _, r, cN, e, a4, exs, _, es, _, rfl, d6.row.ex x712, CN, hok.change hk hio, T6.ex x712, TS6.ext x712, q⟩
  · exact ⟨_, _, _, _, _, _, _, _, _, _, _, _, _, _, _, r, c, e, sA, exs, ixs, es, is, rfl, d4.row, C4, hok, T4, TS4, q⟩
end

end M10
set_option Elab.async false
set_option linter.all false
set_option maxRecDepth 100000
set_option maxHeartbeats 0
namespace M10
open PySem PySem.Spec PyProof.Rows L2
def fn : List He.DefD := [⟨(("Stuck", some "__init__")), "__init__", "Stuck.__init__", defArgs m_Stuck_init, defBody m_Stuck_init, defScope m_Stuck_init, [], []⟩,
  ⟨(("is_in", none)), "is_in", "is_in", defArgs s_is_in, defBody s_is_in, defScope s_is_in, [], []⟩,
  ⟨(("is_tuple", none)), "is_tuple", "is_tuple", defArgs s_is_tuple, defBody s_is_tuple, defScope s_is_tuple, [], []⟩,
  ⟨(("worked", none)), "worked", "worked", defArgs s_worked, defBody s_worked, defScope s_worked, [], []⟩,
  ⟨(("need_lates", none)), "need_lates", "need_lates", defArgs s_need_lates, defBody s_need_lates, defScope s_need_lates, [], []⟩,
  ⟨(("need_fuel", none)), "need_fuel", "need_fuel", defArgs s_need_fuel, defBody s_need_fuel, defScope s_need_fuel, [], []⟩,
  ⟨(("is_entry", none)), "is_entry", "is_entry", defArgs s_is_entry, defBody s_is_entry, defScope s_is_entry, [], []⟩,
  ⟨(("is_instruction", none)), "is_instruction", "is_instruction", defArgs s_is_instruction, defBody s_is_instruction, defScope s_is_instruction, [], []⟩,
  ⟨(("need_code", none)), "need_code", "need_code", defArgs s_need_code, defBody s_need_code, defScope s_need_code, [], []⟩,
  ⟨(("Machine", some "__init__")), "__init__", "Machine.__init__", defArgs m_Machine_init, defBody m_Machine_init, defScope m_Machine_init, [], []⟩,
  ⟨(("Machine", some "take")), "take", "Machine.take", defArgs m_Machine_take, defBody m_Machine_take, defScope m_Machine_take, [], []⟩,
  ⟨(("Machine", some "put")), "put", "Machine.put", defArgs m_Machine_put, defBody m_Machine_put, defScope m_Machine_put, [], []⟩,
  ⟨(("Machine", some "compute")), "compute", "Machine.compute", defArgs m_Machine_compute, defBody m_Machine_compute, defScope m_Machine_compute, [], []⟩,
  ⟨(("Machine", some "enter")), "enter", "Machine.enter", defArgs m_Machine_enter, defBody m_Machine_enter, defScope m_Machine_enter, [], []⟩,
  ⟨(("Machine", some "leave")), "leave", "Machine.leave", defArgs m_Machine_leave, defBody m_Machine_leave, defScope m_Machine_leave, [], []⟩,
  ⟨(("Machine", some "step")), "step", "Machine.step", defArgs m_Machine_step, defBody m_Machine_step, defScope m_Machine_step, [], []⟩,
  ⟨(("Machine", some "plain_step")), "plain_step", "Machine.plain_step", defArgs m_Machine_plain_step, defBody m_Machine_plain_step, defScope m_Machine_plain_step, [], []⟩,
  ⟨(("machine_run", none)), "machine_run", "machine_run", defArgs s_machine_run, defBody s_machine_run, defScope s_machine_run, [], []⟩,
  ⟨(("needs", none)), "needs", "needs", defArgs s_needs, defBody s_needs, defScope s_needs, [], []⟩,
  ⟨(("nexts", none)), "nexts", "nexts", defArgs s_nexts, defBody s_nexts, defScope s_nexts, [], []⟩,
  ⟨(("is_sound", none)), "is_sound", "is_sound", defArgs s_is_sound, defBody s_is_sound, defScope s_is_sound, [], []⟩,
  ⟨(("spans", none)), "spans", "spans", defArgs s_spans, defBody s_spans, defScope s_spans, [], []⟩,
  ⟨(("put_heights", none)), "put_heights", "put_heights", defArgs s_put_heights, defBody s_put_heights, defScope s_put_heights, [], []⟩,
  ⟨(("heights_of", none)), "heights_of", "heights_of", defArgs s_heights_of, defBody s_heights_of, defScope s_heights_of, [], []⟩,
  ⟨(("heights", none)), "heights", "heights", defArgs s_heights, defBody s_heights, defScope s_heights, [], []⟩,
  ⟨(("deepest", none)), "deepest", "deepest", defArgs s_deepest, defBody s_deepest, defScope s_deepest, [], []⟩,
  ⟨(("_law_taken", none)), "_law_taken", "_law_taken", defArgs s_law_taken, defBody s_law_taken, defScope s_law_taken, [], []⟩,
  ⟨(("_law_pick", none)), "_law_pick", "_law_pick", defArgs s_law_pick, defBody s_law_pick, defScope s_law_pick, [], []⟩,
  ⟨(("_law_alike", none)), "_law_alike", "_law_alike", defArgs s_law_alike, defBody s_law_alike, defScope s_law_alike, [], []⟩,
  ⟨(("_law_name", none)), "_law_name", "_law_name", defArgs s_law_name, defBody s_law_name, defScope s_law_name, [], []⟩,
  ⟨(("_law_expression", none)), "_law_expression", "_law_expression", defArgs s_law_expression, defBody s_law_expression, defScope s_law_expression, [], []⟩,
  ⟨(("_law_move", none)), "_law_move", "_law_move", defArgs s_law_move, defBody s_law_move, defScope s_law_move, [], []⟩,
  ⟨(("_law_is_early", none)), "_law_is_early", "_law_is_early", defArgs s_law_is_early, defBody s_law_is_early, defScope s_law_is_early, [], []⟩,
  ⟨(("_law_test", none)), "_law_test", "_law_test", defArgs s_law_test, defBody s_law_test, defScope s_law_test, [], []⟩,
  ⟨(("_law_program", none)), "_law_program", "_law_program", defArgs s_law_program, defBody s_law_program, defScope s_law_program, [], []⟩,
  ⟨(("_law_parts", none)), "_law_parts", "_law_parts", defArgs s_law_parts, defBody s_law_parts, defScope s_law_parts, [], []⟩,
  ⟨(("_law_calls", none)), "_law_calls", "_law_calls", defArgs s_law_calls, defBody s_law_calls, defScope s_law_calls, [], []⟩,
  ⟨(("_law_body", none)), "_law_body", "_law_body", defArgs s_law_body, defBody s_law_body, defScope s_law_body, [], []⟩,
  ⟨(("_law_lates", none)), "_law_lates", "_law_lates", defArgs s_law_lates, defBody s_law_lates, defScope s_law_lates, [], []⟩,
  ⟨(("_law_worked", none)), "_law_worked", "_law_worked", defArgs s_law_worked, defBody s_law_worked, defScope s_law_worked, [], []⟩,
  ⟨(("_law_moved", none)), "_law_moved", "_law_moved", defArgs s_law_moved, defBody s_law_moved, defScope s_law_moved, [], []⟩,
  ⟨(("_law_holds", none)), "_law_holds", "_law_holds", defArgs s_law_holds, defBody s_law_holds, defScope s_law_holds, [], []⟩,
  ⟨(("_law_left", none)), "_law_left", "_law_left", defArgs s_law_left, defBody s_law_left, defScope s_law_left, [], []⟩,
  ⟨(("_law_called", none)), "_law_called", "_law_called", defArgs s_law_called, defBody s_law_called, defScope s_law_called, [], []⟩,
  ⟨(("_law_points", none)), "_law_points", "_law_points", defArgs s_law_points, defBody s_law_points, defScope s_law_points, [], []⟩,
  ⟨(("_law_staged", none)), "_law_staged", "_law_staged", defArgs s_law_staged, defBody s_law_staged, defScope s_law_staged, [], []⟩,
  ⟨(("_law_put", none)), "_law_put", "_law_put", defArgs s_law_put, defBody s_law_put, defScope s_law_put, [], []⟩,
  ⟨(("_law_code", none)), "_law_code", "_law_code", defArgs s_law_code, defBody s_law_code, defScope s_law_code, [], []⟩,
  ⟨(("_law_plain", none)), "_law_plain", "_law_plain", defArgs s_law_plain, defBody s_law_plain, defScope s_law_plain, [], []⟩,
  ⟨(("_law_told", none)), "_law_told", "_law_told", defArgs s_law_told, defBody s_law_told, defScope s_law_told, [], []⟩,
  ⟨(("_law_machine", none)), "_law_machine", "_law_machine", defArgs s_law_machine, defBody s_law_machine, defScope s_law_machine, [], []⟩,
  ⟨(("_law_heights", none)), "_law_heights", "_law_heights", defArgs s_law_heights, defBody s_law_heights, defScope s_law_heights, [], []⟩,
  ⟨(("law", none)), "law", "law", defArgs s_law, defBody s_law, defScope s_law, [], []⟩]
def fa : List He.Fa := [.glo "is_in", .glo "is_tuple", .glo "worked", .glo "need_lates", .glo "need_fuel", .glo "is_entry", .glo "is_instruction", .glo "need_code", .glo "machine_run", .glo "needs", .glo "nexts", .glo "is_sound", .glo "spans", .glo "put_heights", .glo "heights_of", .glo "heights", .glo "deepest", .glo "_law_taken", .glo "_law_pick", .glo "_law_alike", .glo "_law_name", .glo "_law_expression", .glo "_law_move", .glo "_law_is_early", .glo "_law_test", .glo "_law_program", .glo "_law_parts", .glo "_law_calls", .glo "_law_body", .glo "_law_lates", .glo "_law_worked", .glo "_law_moved", .glo "_law_holds", .glo "_law_left", .glo "_law_called", .glo "_law_points", .glo "_law_staged", .glo "_law_put", .glo "_law_code", .glo "_law_plain", .glo "_law_told", .glo "_law_machine", .glo "_law_heights", .glo "law", .glo "StageError", .glo "Stuck", .glo "Unsound", .glo "Machine", .glo "ALONE", .glo "LEAPS", .glo "CALLS", .free "len", .free "int", .free "isinstance", .free "tuple", .free "list", .free "str", .free "range", .free "zip", .free "enumerate", .free "sorted", .free "max", .free "min", .free "all", .free "any", .free "bool", .int "MOST_NUMBER" 1000000, .int "MOST_LATES" 4, .int "MOST_FUEL" 100000, .int "MOST_VALUE" 1000000000000000000000000000000, .int "MOST_PLAIN" 300, .int "MOST_CODE" 100000, .cls "Machine", .mkr "Machine", .noat "Machine" "entries", .noat "Machine" "some", .noat "Machine" "at", .noat "Machine" "stack", .noat "Machine" "frames", .noat "Machine" "most_frames", .noat "Machine" "most_stack", .meth "Machine" "take", .meth "Machine" "put", .meth "Machine" "compute", .meth "Machine" "enter", .meth "Machine" "leave", .meth "Machine" "step", .meth "Machine" "plain_step", .exc "Unsound", .exm "Stuck" "StageError" true, .exm "Unsound" "StageError" true, .keep "Stuck", .noat "Stuck" "address"]

def oexB (K : PySem.W.Frag) (C : Addr) : Bool := match K.lookup C with
  | some ⟨.type c, _, .cls cd, sl⟩ => (match cd.mro, sl.toList with
    | .ref C' :: bm, [_, _, _, _, some (.builtin n), _] => decide (c = "type") && (C' == C && (n == "ValueError.__new__" && (cd.hasDict && (!cd.hasDel && PySem.HandSPX.refsVE bm))))
    | _, _ => false)
  | _ => false
def excCB (K : PySem.W.Frag) (D : Addr) : Bool := decide (PySem.W.findIn K (.ref D) "__getattribute__" = some (some (.builtin "BaseException.__getattribute__"))) && (decide (PySem.W.findIn K (.ref D) "__getattr__" = some none) && (decide (PySem.W.subIn K (.ref D) (.type "BaseException") = some true) && (PySem.W.hasDictIn K D
  && (decide (PySem.W.findIn K (.ref D) "__class__" = some (some (.builtin "object.__class__"))) && (decide (PySem.W.specialIn K (.builtin "object.__class__") "__get__" = some (some (.builtin "getset_descriptor.__get__"))) && (decide (PySem.W.takesIn K (.builtin "object.__class__") = some true) && decide (PySem.W.mroIn K D (.type "object") = some true)))))))
def farB (K : PySem.W.Frag) : Bool := !((He.cT K ("law", none)).2 == (He.cT K ("need_code", none)).2) && !((He.cT K ("law", none)).2 == (He.cT K ("need_lates", none)).2)
def exB (K : PySem.W.Frag) : Bool :=
  farB K && (He.lstB K "ALONE" [.str "plus", .str "minus", .str "times", .str "less", .str "back"] && (He.lstB K "LEAPS" [.str "jump", .str "zero"] && (He.lstB K "CALLS" [.str "call", .str "tail"]
  && (oexB K (He.ga K "Stuck") && (decide (PySem.W.findIn K (.ref (He.ga K "Stuck")) "__setattr__" = some (some (.builtin "object.__setattr__"))) && (decide (PySem.W.subIn K (.ref (He.ga K "Stuck")) (.type "BaseException") = some true) && (decide (PySem.W.typeIn K (.ref (He.ga K "Stuck")) = some (.type "type"))
  && (decide (PySem.W.findIn K (.ref (He.ga K "Stuck")) "__init__" = some (some (.ref (He.ma K (He.ga K "Stuck") "__init__")))) && (decide (PySem.W.typeIn K (.ref (He.ma K (He.ga K "Stuck") "__init__")) = some (.type "function"))
  && (xfB K (He.ga K "Stuck") && (excCB K (He.ga K "Stuck") && (excCB K (He.ga K "Unsound")
  && (decide (PySem.W.kitOne K (.ref (He.ga K "Stuck")) (.ref (He.ga K "Stuck")) = some true) && (decide (PySem.W.kitOne K (.ref (He.ga K "Unsound")) (.ref (He.ga K "Stuck")) = some false) && decide (PySem.W.kitOne K (.ref (He.ga K "Unsound")) (.ref (He.ga K "Unsound")) = some true)))))))))))))))
def tf : List He.Defn := [("law", none), ("need_code", none), ("need_lates", none)]
abbrev R : PySem.W.OpenRow := PySem.W.OpenLaw.row PySem.Challenge.rw_staged_k10_whole_machines
abbrev hk : PySem.W.Hook := He.hookX 4 fa fn [] tf exB
def ob (s : PySem.W.SharedT) : He.AlX := He.obsX 4 fa fn [] tf exB (HandSHeadRun.getT s)
theorem ob_eq (s : PySem.W.SharedT) : ob s = hk.obs s.abs := He.obsX_eq (HandSHeadRun.getT_eq s)
def loose : List Str := ([PySem.Str.ofString "StageError", PySem.Str.ofString "BadLates", PySem.Str.ofString "BadFuel", PySem.Str.ofString "BadCode", PySem.Str.ofString "Stuck", PySem.Str.ofString "Unsound", PySem.Str.ofString "MOST_NUMBER", PySem.Str.ofString "MOST_LATES", PySem.Str.ofString "is_in", PySem.Str.ofString "is_tuple", PySem.Str.ofString "MOST_FUEL", PySem.Str.ofString "MOST_VALUE", PySem.Str.ofString "worked", PySem.Str.ofString "need_lates", PySem.Str.ofString "need_fuel", PySem.Str.ofString "MOST_PLAIN", PySem.Str.ofString "MOST_CODE", PySem.Str.ofString "ALONE", PySem.Str.ofString "LEAPS", PySem.Str.ofString "CALLS"] : List Str) ++ ([PySem.Str.ofString "is_entry", PySem.Str.ofString "is_instruction", PySem.Str.ofString "need_code", PySem.Str.ofString "Machine", PySem.Str.ofString "machine_run", PySem.Str.ofString "needs", PySem.Str.ofString "nexts", PySem.Str.ofString "is_sound", PySem.Str.ofString "spans", PySem.Str.ofString "put_heights", PySem.Str.ofString "heights_of", PySem.Str.ofString "heights", PySem.Str.ofString "deepest", PySem.Str.ofString "_law_taken", PySem.Str.ofString "_law_pick", PySem.Str.ofString "_law_alike", PySem.Str.ofString "_law_name", PySem.Str.ofString "_law_expression", PySem.Str.ofString "_law_move", PySem.Str.ofString "_law_is_early"] : List Str) ++ ([PySem.Str.ofString "_law_test", PySem.Str.ofString "_law_program", PySem.Str.ofString "_law_parts", PySem.Str.ofString "_law_nodes", PySem.Str.ofString "_law_calls", PySem.Str.ofString "_law_body", PySem.Str.ofString "_law_lates", PySem.Str.ofString "_law_worked", PySem.Str.ofString "_law_moved", PySem.Str.ofString "_law_holds", PySem.Str.ofString "_law_left", PySem.Str.ofString "_law_called", PySem.Str.ofString "_law_points", PySem.Str.ofString "_law_plain_run", PySem.Str.ofString "_law_staged", PySem.Str.ofString "_law_put", PySem.Str.ofString "_law_code", PySem.Str.ofString "_law_plain", PySem.Str.ofString "_law_indexed", PySem.Str.ofString "_law_renamed"] : List Str) ++ ([PySem.Str.ofString "_law_told", PySem.Str.ofString "_law_machine", PySem.Str.ofString "_law_heights"] : List Str)
theorem run (w : World) : HandSHeadRun.RunEq R (PySem.W.view R.prog [69]) hk ob 4000 loose w := by
  intro os
  kernel_rfl
end M10
set_option Elab.async false
set_option linter.all false
set_option maxRecDepth 100000
set_option maxHeartbeats 4000000
namespace M10
open PySem PySem.Spec PyProof.Rows L2
/-! ### what the head tells, as the walk's facts -/
abbrev SX (w : World) (h : Heap) (K : PySem.W.Frag) : Prop := He.SaysX fa fn [] tf exB w h K
theorem toFun {K : PySem.W.Frag} {x q : Str} {st : Stmt} {f : Addr} {fd : FuncData} (F : FunD K x q (defArgs st) (defBody st) (defScope st) [] [] f fd) : L2.Fun K x q st f fd := by
  obtain ⟨oc, od, dV, kV, doc, pm, an, cdv, ct, osl, e, lk, hc, hd, _⟩ := F.ex
  rcases hd with ⟨_, rfl⟩ | ⟨z, _⟩
  · exact ⟨⟨oc, od, kV, doc, pm, an, cdv, ct, osl, e, lk, hc⟩, F.kp⟩
  · exact absurd rfl z
theorem codeAt_ {K : PySem.W.Frag} {x : Str} {ps : Arguments} {b : List Stmt} {sc : Scope} {fd : FuncData} (F : FunD K x x ps b sc [] [] (He.fAd K (x, none)) fd) : fd.code = .ref (He.cT K (x, none)).1 := by
  obtain ⟨oc, od, dV, kV, doc, pm, an, cdv, ct, osl, e, lk, hc, _⟩ := F.ex
  obtain ⟨c, rfl⟩ := He.codeIn_ref hc
  have ec : fd.code = .ref c := by
    rw [e] <;> rfl
  rw [ec]
  exact congrArg Value.ref (He.codeOf_eq (p := (x, none)) lk ec).symm
theorem oexB_ok {K : PySem.W.Frag} {C : Addr} (q : oexB K C = true) : ∃ nm q N bs bm sn sub ab col dd k0 k1 k2 k3 k5, K.lookup C = some (PySem.excClassObj nm q C N bs bm true sn sub ab col dd k0 k1 k2 k3 k5 "ValueError.__new__") ∧ PySem.HandSPX.refsVE bm = true := by
  unfold oexB at q
  split at q
  · rename_i c dd cd sl ho
    split at q
    · rename_i C' bm k0 k1 k2 k3 n k5 hm hs
      simp only [Bool.and_eq_true, beq_iff_eq, Bool.not_eq_true', decide_eq_true_eq] at q
      obtain ⟨rfl, rfl, rfl, h1, h2, h3⟩ := q
      obtain ⟨nm, bs, mro, ns, qn, hd, sn, sub, ab, col, del⟩ := cd
      dsimp only at hm h1 h2
      subst hm h1 h2
      have hsl : sl = #[k0, k1, k2, k3, some (.builtin "ValueError.__new__"), k5] := by
        obtain ⟨l⟩ := sl
        simp only at hs
        rw [hs]
      subst hsl
      exact ⟨nm, qn, ns, bs, bm, sn, sub, ab, col, dd, k0, k1, k2, k3, k5, ho, h3⟩
    · cases q
  · cases q
theorem excCB_ok {K : PySem.W.Frag} {D : Addr} (h : excCB K D = true) : ExcC K D := by
  unfold excCB at h
  simp only [Bool.and_eq_true, decide_eq_true_eq] at h
  obtain ⟨h1, h2, h3, h4, h5, h6, h7, h8⟩ := h
  exact ⟨h1, h2, h3, h4, h5, h6, h7, h8⟩
section
variable {w : World} {h : Heap} {K : PySem.W.Frag} {mg : Str → Option Value}

theorem d_is_in (X : K.In h) (G : h.Ns mainGlobals mg) (c : SX w h K) : Dd K mg "is_in" s_is_in ["value", "least", "most"] := by
  obtain ⟨fd, F⟩ := c.t.d.def_ 1 rfl
  exact ⟨_, fd, toFun F, He.glo_ok X G (c.t.d.fact 0 (f := .glo "is_in") rfl), (F.bindsN fun _ _ _ _ _ _ us hl => match us, hl with | [_, _, _], _ => rfl)⟩
theorem d_is_tuple (X : K.In h) (G : h.Ns mainGlobals mg) (c : SX w h K) : Dd K mg "is_tuple" s_is_tuple ["value", "many"] := by
  obtain ⟨fd, F⟩ := c.t.d.def_ 2 rfl
  exact ⟨_, fd, toFun F, He.glo_ok X G (c.t.d.fact 1 (f := .glo "is_tuple") rfl), (F.bindsN fun _ _ _ _ _ _ us hl => match us, hl with | [_, _], _ => rfl)⟩
theorem d_worked (X : K.In h) (G : h.Ns mainGlobals mg) (c : SX w h K) : Dd K mg "worked" s_worked ["kind", "one", "other"] := by
  obtain ⟨fd, F⟩ := c.t.d.def_ 3 rfl
  exact ⟨_, fd, toFun F, He.glo_ok X G (c.t.d.fact 2 (f := .glo "worked") rfl), (F.bindsN fun _ _ _ _ _ _ us hl => match us, hl with | [_, _, _], _ => rfl)⟩
theorem d_need_lates (X : K.In h) (G : h.Ns mainGlobals mg) (c : SX w h K) : DdC K mg "need_lates" s_need_lates ["many", "lates"] (He.cT K ("need_lates", none)).1 := by
  obtain ⟨fd, F⟩ := c.t.d.def_ 4 rfl
  exact ⟨_, fd, toFun F, codeAt_ F, He.glo_ok X G (c.t.d.fact 3 (f := .glo "need_lates") rfl), (F.bindsN fun _ _ _ _ _ _ us hl => match us, hl with | [_, _], _ => rfl)⟩
theorem d_need_fuel (X : K.In h) (G : h.Ns mainGlobals mg) (c : SX w h K) : Dd K mg "need_fuel" s_need_fuel ["fuel"] := by
  obtain ⟨fd, F⟩ := c.t.d.def_ 5 rfl
  exact ⟨_, fd, toFun F, He.glo_ok X G (c.t.d.fact 4 (f := .glo "need_fuel") rfl), (F.bindsN fun _ _ _ _ _ _ us hl => match us, hl with | [_], _ => rfl)⟩
theorem d_is_entry (X : K.In h) (G : h.Ns mainGlobals mg) (c : SX w h K) : Dd K mg "is_entry" s_is_entry ["value", "most"] := by
  obtain ⟨fd, F⟩ := c.t.d.def_ 6 rfl
  exact ⟨_, fd, toFun F, He.glo_ok X G (c.t.d.fact 5 (f := .glo "is_entry") rfl), (F.bindsN fun _ _ _ _ _ _ us hl => match us, hl with | [_, _], _ => rfl)⟩
theorem d_is_instruction (X : K.In h) (G : h.Ns mainGlobals mg) (c : SX w h K) : Dd K mg "is_instruction" s_is_instruction ["value", "entries", "most"] := by
  obtain ⟨fd, F⟩ := c.t.d.def_ 7 rfl
  exact ⟨_, fd, toFun F, He.glo_ok X G (c.t.d.fact 6 (f := .glo "is_instruction") rfl), (F.bindsN fun _ _ _ _ _ _ us hl => match us, hl with | [_, _, _], _ => rfl)⟩
theorem d_need_code (X : K.In h) (G : h.Ns mainGlobals mg) (c : SX w h K) : DdC K mg "need_code" s_need_code ["code"] (He.cT K ("need_code", none)).1 := by
  obtain ⟨fd, F⟩ := c.t.d.def_ 8 rfl
  exact ⟨_, fd, toFun F, codeAt_ F, He.glo_ok X G (c.t.d.fact 7 (f := .glo "need_code") rfl), (F.bindsN fun _ _ _ _ _ _ us hl => match us, hl with | [_], _ => rfl)⟩
theorem m_init (c : SX w h K) : DM K (He.ga K "Machine") "__init__" "Machine.__init__" m_Machine_init ["self", "code", "lates"] := by
  obtain ⟨fd, F⟩ := c.t.d.def_ 9 rfl
  have M := He.mkr_ok (c.t.d.fact 73 (f := .mkr "Machine") rfl)
  exact ⟨_, fd, toFun F, ⟨M.init, M.fn, F.kp⟩, (F.bindsN fun _ _ _ _ _ _ us hl => match us, hl with | [_, _, _], _ => rfl)⟩
theorem m_take (c : SX w h K) : DM K (He.ga K "Machine") "take" "Machine.take" m_Machine_take ["self", "many"] := by
  obtain ⟨fd, F⟩ := c.t.d.def_ 10 rfl
  exact ⟨_, fd, toFun F, He.meth_ok (c.t.d.fact 81 (f := .meth "Machine" "take") rfl), (F.bindsN fun _ _ _ _ _ _ us hl => match us, hl with | [_, _], _ => rfl)⟩
theorem m_put (c : SX w h K) : DM K (He.ga K "Machine") "put" "Machine.put" m_Machine_put ["self", "number"] := by
  obtain ⟨fd, F⟩ := c.t.d.def_ 11 rfl
  exact ⟨_, fd, toFun F, He.meth_ok (c.t.d.fact 82 (f := .meth "Machine" "put") rfl), (F.bindsN fun _ _ _ _ _ _ us hl => match us, hl with | [_, _], _ => rfl)⟩
theorem m_compute (c : SX w h K) : DM K (He.ga K "Machine") "compute" "Machine.compute" m_Machine_compute ["self", "kind"] := by
  obtain ⟨fd, F⟩ := c.t.d.def_ 12 rfl
  exact ⟨_, fd, toFun F, He.meth_ok (c.t.d.fact 83 (f := .meth "Machine" "compute") rfl), (F.bindsN fun _ _ _ _ _ _ us hl => match us, hl with | [_, _], _ => rfl)⟩
theorem m_enter (c : SX w h K) : DM K (He.ga K "Machine") "enter" "Machine.enter" m_Machine_enter ["self", "kind", "number"] := by
  obtain ⟨fd, F⟩ := c.t.d.def_ 13 rfl
  exact ⟨_, fd, toFun F, He.meth_ok (c.t.d.fact 84 (f := .meth "Machine" "enter") rfl), (F.bindsN fun _ _ _ _ _ _ us hl => match us, hl with | [_, _, _], _ => rfl)⟩
theorem m_leave (c : SX w h K) : DM K (He.ga K "Machine") "leave" "Machine.leave" m_Machine_leave ["self"] := by
  obtain ⟨fd, F⟩ := c.t.d.def_ 14 rfl
  exact ⟨_, fd, toFun F, He.meth_ok (c.t.d.fact 85 (f := .meth "Machine" "leave") rfl), (F.bindsN fun _ _ _ _ _ _ us hl => match us, hl with | [_], _ => rfl)⟩
theorem m_step (c : SX w h K) : DM K (He.ga K "Machine") "step" "Machine.step" m_Machine_step ["self"] := by
  obtain ⟨fd, F⟩ := c.t.d.def_ 15 rfl
  exact ⟨_, fd, toFun F, He.meth_ok (c.t.d.fact 86 (f := .meth "Machine" "step") rfl), (F.bindsN fun _ _ _ _ _ _ us hl => match us, hl with | [_], _ => rfl)⟩
theorem m_plain_step (c : SX w h K) : DM K (He.ga K "Machine") "plain_step" "Machine.plain_step" m_Machine_plain_step ["self", "one"] := by
  obtain ⟨fd, F⟩ := c.t.d.def_ 16 rfl
  exact ⟨_, fd, toFun F, He.meth_ok (c.t.d.fact 87 (f := .meth "Machine" "plain_step") rfl), (F.bindsN fun _ _ _ _ _ _ us hl => match us, hl with | [_, _], _ => rfl)⟩
theorem d_machine_run (X : K.In h) (G : h.Ns mainGlobals mg) (c : SX w h K) : Dd K mg "machine_run" s_machine_run ["code", "lates", "fuel"] := by
  obtain ⟨fd, F⟩ := c.t.d.def_ 17 rfl
  exact ⟨_, fd, toFun F, He.glo_ok X G (c.t.d.fact 8 (f := .glo "machine_run") rfl), (F.bindsN fun _ _ _ _ _ _ us hl => match us, hl with | [_, _, _], _ => rfl)⟩
theorem d_needs (X : K.In h) (G : h.Ns mainGlobals mg) (c : SX w h K) : Dd K mg "needs" s_needs ["one", "entries"] := by
  obtain ⟨fd, F⟩ := c.t.d.def_ 18 rfl
  exact ⟨_, fd, toFun F, He.glo_ok X G (c.t.d.fact 9 (f := .glo "needs") rfl), (F.bindsN fun _ _ _ _ _ _ us hl => match us, hl with | [_, _], _ => rfl)⟩
theorem d_nexts (X : K.In h) (G : h.Ns mainGlobals mg) (c : SX w h K) : Dd K mg "nexts" s_nexts ["one", "at"] := by
  obtain ⟨fd, F⟩ := c.t.d.def_ 19 rfl
  exact ⟨_, fd, toFun F, He.glo_ok X G (c.t.d.fact 10 (f := .glo "nexts") rfl), (F.bindsN fun _ _ _ _ _ _ us hl => match us, hl with | [_, _], _ => rfl)⟩
theorem d_is_sound (X : K.In h) (G : h.Ns mainGlobals mg) (c : SX w h K) : Dd K mg "is_sound" s_is_sound ["code", "at", "lates", "height"] := by
  obtain ⟨fd, F⟩ := c.t.d.def_ 20 rfl
  exact ⟨_, fd, toFun F, He.glo_ok X G (c.t.d.fact 11 (f := .glo "is_sound") rfl), (F.bindsN fun _ _ _ _ _ _ us hl => match us, hl with | [_, _, _, _], _ => rfl)⟩
theorem d_spans (X : K.In h) (G : h.Ns mainGlobals mg) (c : SX w h K) : Dd K mg "spans" s_spans ["code"] := by
  obtain ⟨fd, F⟩ := c.t.d.def_ 21 rfl
  exact ⟨_, fd, toFun F, He.glo_ok X G (c.t.d.fact 12 (f := .glo "spans") rfl), (F.bindsN fun _ _ _ _ _ _ us hl => match us, hl with | [_], _ => rfl)⟩
theorem d_put_heights (X : K.In h) (G : h.Ns mainGlobals mg) (c : SX w h K) : Dd K mg "put_heights" s_put_heights ["code", "begin", "end", "lates", "found"] := by
  obtain ⟨fd, F⟩ := c.t.d.def_ 22 rfl
  exact ⟨_, fd, toFun F, He.glo_ok X G (c.t.d.fact 13 (f := .glo "put_heights") rfl), (F.bindsN fun _ _ _ _ _ _ us hl => match us, hl with | [_, _, _, _, _], _ => rfl)⟩
theorem d_heights_of (X : K.In h) (G : h.Ns mainGlobals mg) (c : SX w h K) : Dd K mg "heights_of" s_heights_of ["code"] := by
  obtain ⟨fd, F⟩ := c.t.d.def_ 23 rfl
  exact ⟨_, fd, toFun F, He.glo_ok X G (c.t.d.fact 14 (f := .glo "heights_of") rfl), (F.bindsN fun _ _ _ _ _ _ us hl => match us, hl with | [_], _ => rfl)⟩
theorem d_heights (X : K.In h) (G : h.Ns mainGlobals mg) (c : SX w h K) : Dd K mg "heights" s_heights ["code"] := by
  obtain ⟨fd, F⟩ := c.t.d.def_ 24 rfl
  exact ⟨_, fd, toFun F, He.glo_ok X G (c.t.d.fact 15 (f := .glo "heights") rfl), (F.bindsN fun _ _ _ _ _ _ us hl => match us, hl with | [_], _ => rfl)⟩
theorem d_deepest (X : K.In h) (G : h.Ns mainGlobals mg) (c : SX w h K) : Dd K mg "deepest" s_deepest ["code"] := by
  obtain ⟨fd, F⟩ := c.t.d.def_ 25 rfl
  exact ⟨_, fd, toFun F, He.glo_ok X G (c.t.d.fact 16 (f := .glo "deepest") rfl), (F.bindsN fun _ _ _ _ _ _ us hl => match us, hl with | [_], _ => rfl)⟩
theorem d_law_taken (X : K.In h) (G : h.Ns mainGlobals mg) (c : SX w h K) : Dd K mg "_law_taken" s_law_taken ["_law_row", "_law_many"] := by
  obtain ⟨fd, F⟩ := c.t.d.def_ 26 rfl
  exact ⟨_, fd, toFun F, He.glo_ok X G (c.t.d.fact 17 (f := .glo "_law_taken") rfl), (F.bindsN fun _ _ _ _ _ _ us hl => match us, hl with | [_, _], _ => rfl)⟩
theorem d_law_pick (X : K.In h) (G : h.Ns mainGlobals mg) (c : SX w h K) : Dd K mg "_law_pick" s_law_pick ["_law_row", "_law_things"] := by
  obtain ⟨fd, F⟩ := c.t.d.def_ 27 rfl
  exact ⟨_, fd, toFun F, He.glo_ok X G (c.t.d.fact 18 (f := .glo "_law_pick") rfl), (F.bindsN fun _ _ _ _ _ _ us hl => match us, hl with | [_, _], _ => rfl)⟩
theorem d_law_alike (X : K.In h) (G : h.Ns mainGlobals mg) (c : SX w h K) : Dd K mg "_law_alike" s_law_alike ["_law_found", "_law_due"] := by
  obtain ⟨fd, F⟩ := c.t.d.def_ 28 rfl
  exact ⟨_, fd, toFun F, He.glo_ok X G (c.t.d.fact 19 (f := .glo "_law_alike") rfl), (F.bindsN fun _ _ _ _ _ _ us hl => match us, hl with | [_, _], _ => rfl)⟩
theorem d_law_name (X : K.In h) (G : h.Ns mainGlobals mg) (c : SX w h K) : Dd K mg "_law_name" s_law_name ["_law_row"] := by
  obtain ⟨fd, F⟩ := c.t.d.def_ 29 rfl
  exact ⟨_, fd, toFun F, He.glo_ok X G (c.t.d.fact 20 (f := .glo "_law_name") rfl), (F.bindsN fun _ _ _ _ _ _ us hl => match us, hl with | [_], _ => rfl)⟩
theorem d_law_expression (X : K.In h) (G : h.Ns mainGlobals mg) (c : SX w h K) : Dd K mg "_law_expression" s_law_expression ["_law_row", "_law_deep", "_law_lates_here", "_law_names", "_law_is_hot"] := by
  obtain ⟨fd, F⟩ := c.t.d.def_ 30 rfl
  exact ⟨_, fd, toFun F, He.glo_ok X G (c.t.d.fact 21 (f := .glo "_law_expression") rfl), (F.bindsN fun _ _ _ _ _ _ us hl => match us, hl with | [_, _, _, _, _], _ => rfl)⟩
theorem d_law_move (X : K.In h) (G : h.Ns mainGlobals mg) (c : SX w h K) : Dd K mg "_law_move" s_law_move ["_law_row", "_law_is_hot"] := by
  obtain ⟨fd, F⟩ := c.t.d.def_ 31 rfl
  exact ⟨_, fd, toFun F, He.glo_ok X G (c.t.d.fact 22 (f := .glo "_law_move") rfl), (F.bindsN fun _ _ _ _ _ _ us hl => match us, hl with | [_, _], _ => rfl)⟩
theorem d_law_is_early (X : K.In h) (G : h.Ns mainGlobals mg) (c : SX w h K) : Dd K mg "_law_is_early" s_law_is_early ["_law_one"] := by
  obtain ⟨fd, F⟩ := c.t.d.def_ 32 rfl
  exact ⟨_, fd, toFun F, He.glo_ok X G (c.t.d.fact 23 (f := .glo "_law_is_early") rfl), (F.bindsN fun _ _ _ _ _ _ us hl => match us, hl with | [_], _ => rfl)⟩
theorem d_law_test (X : K.In h) (G : h.Ns mainGlobals mg) (c : SX w h K) : Dd K mg "_law_test" s_law_test ["_law_row", "_law_deep", "_law_lates_here", "_law_names", "_law_is_hot"] := by
  obtain ⟨fd, F⟩ := c.t.d.def_ 33 rfl
  exact ⟨_, fd, toFun F, He.glo_ok X G (c.t.d.fact 24 (f := .glo "_law_test") rfl), (F.bindsN fun _ _ _ _ _ _ us hl => match us, hl with | [_, _, _, _, _], _ => rfl)⟩
theorem d_law_program (X : K.In h) (G : h.Ns mainGlobals mg) (c : SX w h K) : Dd K mg "_law_program" s_law_program ["_law_row", "_law_is_hot"] := by
  obtain ⟨fd, F⟩ := c.t.d.def_ 34 rfl
  exact ⟨_, fd, toFun F, He.glo_ok X G (c.t.d.fact 25 (f := .glo "_law_program") rfl), (F.bindsN fun _ _ _ _ _ _ us hl => match us, hl with | [_, _], _ => rfl)⟩
theorem d_law_parts (X : K.In h) (G : h.Ns mainGlobals mg) (c : SX w h K) : Dd K mg "_law_parts" s_law_parts ["_law_one"] := by
  obtain ⟨fd, F⟩ := c.t.d.def_ 35 rfl
  exact ⟨_, fd, toFun F, He.glo_ok X G (c.t.d.fact 26 (f := .glo "_law_parts") rfl), (F.bindsN fun _ _ _ _ _ _ us hl => match us, hl with | [_], _ => rfl)⟩
theorem d_law_calls (X : K.In h) (G : h.Ns mainGlobals mg) (c : SX w h K) : Dd K mg "_law_calls" s_law_calls ["_law_one"] := by
  obtain ⟨fd, F⟩ := c.t.d.def_ 36 rfl
  exact ⟨_, fd, toFun F, He.glo_ok X G (c.t.d.fact 27 (f := .glo "_law_calls") rfl), (F.bindsN fun _ _ _ _ _ _ us hl => match us, hl with | [_], _ => rfl)⟩
theorem d_law_body (X : K.In h) (G : h.Ns mainGlobals mg) (c : SX w h K) : Dd K mg "_law_body" s_law_body ["_law_program_here", "_law_name_here"] := by
  obtain ⟨fd, F⟩ := c.t.d.def_ 37 rfl
  exact ⟨_, fd, toFun F, He.glo_ok X G (c.t.d.fact 28 (f := .glo "_law_body") rfl), (F.bindsN fun _ _ _ _ _ _ us hl => match us, hl with | [_, _], _ => rfl)⟩
theorem d_law_lates (X : K.In h) (G : h.Ns mainGlobals mg) (c : SX w h K) : Dd K mg "_law_lates" s_law_lates ["_law_program_here", "_law_name_here"] := by
  obtain ⟨fd, F⟩ := c.t.d.def_ 38 rfl
  exact ⟨_, fd, toFun F, He.glo_ok X G (c.t.d.fact 29 (f := .glo "_law_lates") rfl), (F.bindsN fun _ _ _ _ _ _ us hl => match us, hl with | [_, _], _ => rfl)⟩
theorem d_law_worked (X : K.In h) (G : h.Ns mainGlobals mg) (c : SX w h K) : Dd K mg "_law_worked" s_law_worked ["_law_kind", "_law_one", "_law_other"] := by
  obtain ⟨fd, F⟩ := c.t.d.def_ 39 rfl
  exact ⟨_, fd, toFun F, He.glo_ok X G (c.t.d.fact 30 (f := .glo "_law_worked") rfl), (F.bindsN fun _ _ _ _ _ _ us hl => match us, hl with | [_, _, _], _ => rfl)⟩
theorem d_law_moved (X : K.In h) (G : h.Ns mainGlobals mg) (c : SX w h K) : Dd K mg "_law_moved" s_law_moved ["_law_move_here", "_law_early"] := by
  obtain ⟨fd, F⟩ := c.t.d.def_ 40 rfl
  exact ⟨_, fd, toFun F, He.glo_ok X G (c.t.d.fact 31 (f := .glo "_law_moved") rfl), (F.bindsN fun _ _ _ _ _ _ us hl => match us, hl with | [_, _], _ => rfl)⟩
theorem d_law_holds (X : K.In h) (G : h.Ns mainGlobals mg) (c : SX w h K) : Dd K mg "_law_holds" s_law_holds ["_law_test_here", "_law_early"] := by
  obtain ⟨fd, F⟩ := c.t.d.def_ 41 rfl
  exact ⟨_, fd, toFun F, He.glo_ok X G (c.t.d.fact 32 (f := .glo "_law_holds") rfl), (F.bindsN fun _ _ _ _ _ _ us hl => match us, hl with | [_, _], _ => rfl)⟩
theorem d_law_left (X : K.In h) (G : h.Ns mainGlobals mg) (c : SX w h K) : Dd K mg "_law_left" s_law_left ["_law_one", "_law_early"] := by
  obtain ⟨fd, F⟩ := c.t.d.def_ 42 rfl
  exact ⟨_, fd, toFun F, He.glo_ok X G (c.t.d.fact 33 (f := .glo "_law_left") rfl), (F.bindsN fun _ _ _ _ _ _ us hl => match us, hl with | [_, _], _ => rfl)⟩
theorem d_law_called (X : K.In h) (G : h.Ns mainGlobals mg) (c : SX w h K) : Dd K mg "_law_called" s_law_called ["_law_program_here", "_law_point"] := by
  obtain ⟨fd, F⟩ := c.t.d.def_ 43 rfl
  exact ⟨_, fd, toFun F, He.glo_ok X G (c.t.d.fact 34 (f := .glo "_law_called") rfl), (F.bindsN fun _ _ _ _ _ _ us hl => match us, hl with | [_, _], _ => rfl)⟩
theorem d_law_points (X : K.In h) (G : h.Ns mainGlobals mg) (c : SX w h K) : Dd K mg "_law_points" s_law_points ["_law_program_here", "_law_point", "_law_most"] := by
  obtain ⟨fd, F⟩ := c.t.d.def_ 44 rfl
  exact ⟨_, fd, toFun F, He.glo_ok X G (c.t.d.fact 35 (f := .glo "_law_points") rfl), (F.bindsN fun _ _ _ _ _ _ us hl => match us, hl with | [_, _, _], _ => rfl)⟩
theorem d_law_staged (X : K.In h) (G : h.Ns mainGlobals mg) (c : SX w h K) : Dd K mg "_law_staged" s_law_staged ["_law_program_here", "_law_name_here", "_law_early", "_law_most"] := by
  obtain ⟨fd, F⟩ := c.t.d.def_ 45 rfl
  exact ⟨_, fd, toFun F, He.glo_ok X G (c.t.d.fact 36 (f := .glo "_law_staged") rfl), (F.bindsN fun _ _ _ _ _ _ us hl => match us, hl with | [_, _, _, _], _ => rfl)⟩
theorem d_law_put (X : K.In h) (G : h.Ns mainGlobals mg) (c : SX w h K) : Dd K mg "_law_put" s_law_put ["_law_one", "_law_numbers", "_law_at", "_law_is_last"] := by
  obtain ⟨fd, F⟩ := c.t.d.def_ 46 rfl
  exact ⟨_, fd, toFun F, He.glo_ok X G (c.t.d.fact 37 (f := .glo "_law_put") rfl), (F.bindsN fun _ _ _ _ _ _ us hl => match us, hl with | [_, _, _, _], _ => rfl)⟩
theorem d_law_code (X : K.In h) (G : h.Ns mainGlobals mg) (c : SX w h K) : Dd K mg "_law_code" s_law_code ["_law_plain_here"] := by
  obtain ⟨fd, F⟩ := c.t.d.def_ 47 rfl
  exact ⟨_, fd, toFun F, He.glo_ok X G (c.t.d.fact 38 (f := .glo "_law_code") rfl), (F.bindsN fun _ _ _ _ _ _ us hl => match us, hl with | [_], _ => rfl)⟩
theorem d_law_plain (X : K.In h) (G : h.Ns mainGlobals mg) (c : SX w h K) : Dd K mg "_law_plain" s_law_plain ["_law_row", "_law_most"] := by
  obtain ⟨fd, F⟩ := c.t.d.def_ 48 rfl
  exact ⟨_, fd, toFun F, He.glo_ok X G (c.t.d.fact 39 (f := .glo "_law_plain") rfl), (F.bindsN fun _ _ _ _ _ _ us hl => match us, hl with | [_, _], _ => rfl)⟩
theorem d_law_told (X : K.In h) (G : h.Ns mainGlobals mg) (c : SX w h K) : Dd K mg "_law_told" s_law_told ["_law_work"] := by
  obtain ⟨fd, F⟩ := c.t.d.def_ 49 rfl
  exact ⟨_, fd, toFun F, He.glo_ok X G (c.t.d.fact 40 (f := .glo "_law_told") rfl), (F.bindsN fun _ _ _ _ _ _ us hl => match us, hl with | [_], _ => rfl)⟩
theorem d_law_machine (X : K.In h) (G : h.Ns mainGlobals mg) (c : SX w h K) : Dd K mg "_law_machine" s_law_machine ["_law_code_here", "_law_lates_here", "_law_fuel"] := by
  obtain ⟨fd, F⟩ := c.t.d.def_ 50 rfl
  exact ⟨_, fd, toFun F, He.glo_ok X G (c.t.d.fact 41 (f := .glo "_law_machine") rfl), (F.bindsN fun _ _ _ _ _ _ us hl => match us, hl with | [_, _, _], _ => rfl)⟩
theorem d_law_heights (X : K.In h) (G : h.Ns mainGlobals mg) (c : SX w h K) : Dd K mg "_law_heights" s_law_heights ["_law_code_here"] := by
  obtain ⟨fd, F⟩ := c.t.d.def_ 51 rfl
  exact ⟨_, fd, toFun F, He.glo_ok X G (c.t.d.fact 42 (f := .glo "_law_heights") rfl), (F.bindsN fun _ _ _ _ _ _ us hl => match us, hl with | [_], _ => rfl)⟩
theorem tb_ok (X : K.In h) (G : h.Ns mainGlobals mg) (c : SX w h K) : Tb K mg :=
  ⟨He.free_ok X G (c.t.d.fact 51 (f := .free "len") rfl),
  He.free_ok X G (c.t.d.fact 52 (f := .free "int") rfl),
  He.free_ok X G (c.t.d.fact 53 (f := .free "isinstance") rfl),
  He.free_ok X G (c.t.d.fact 54 (f := .free "tuple") rfl),
  He.free_ok X G (c.t.d.fact 55 (f := .free "list") rfl),
  He.free_ok X G (c.t.d.fact 56 (f := .free "str") rfl),
  He.free_ok X G (c.t.d.fact 57 (f := .free "range") rfl),
  He.free_ok X G (c.t.d.fact 58 (f := .free "zip") rfl),
  He.free_ok X G (c.t.d.fact 59 (f := .free "enumerate") rfl),
  He.free_ok X G (c.t.d.fact 60 (f := .free "sorted") rfl),
  He.free_ok X G (c.t.d.fact 61 (f := .free "max") rfl),
  He.free_ok X G (c.t.d.fact 62 (f := .free "min") rfl),
  He.free_ok X G (c.t.d.fact 63 (f := .free "all") rfl),
  He.free_ok X G (c.t.d.fact 64 (f := .free "any") rfl),
  He.free_ok X G (c.t.d.fact 65 (f := .free "bool") rfl),
  (by
    obtain ⟨t, e⟩ := He.int_ok X G (c.t.d.fact 66 (f := .int "MOST_NUMBER" 1000000) rfl)
    exact ⟨_, e, t, rfl⟩),
  (by
    obtain ⟨t, e⟩ := He.int_ok X G (c.t.d.fact 67 (f := .int "MOST_LATES" 4) rfl)
    exact ⟨_, e, t, rfl⟩),
  (by
    obtain ⟨t, e⟩ := He.int_ok X G (c.t.d.fact 68 (f := .int "MOST_FUEL" 100000) rfl)
    exact ⟨_, e, t, rfl⟩),
  (by
    obtain ⟨t, e⟩ := He.int_ok X G (c.t.d.fact 69 (f := .int "MOST_VALUE" 1000000000000000000000000000000) rfl)
    exact ⟨_, e, t, rfl⟩),
  (by
    obtain ⟨t, e⟩ := He.int_ok X G (c.t.d.fact 70 (f := .int "MOST_PLAIN" 300) rfl)
    exact ⟨_, e, t, rfl⟩),
  (by
    obtain ⟨t, e⟩ := He.int_ok X G (c.t.d.fact 71 (f := .int "MOST_CODE" 100000) rfl)
    exact ⟨_, e, t, rfl⟩)⟩
theorem ex_ok (c : SX w h K) : farB K = true ∧ He.lstB K "ALONE" [.str "plus", .str "minus", .str "times", .str "less", .str "back"] = true ∧ He.lstB K "LEAPS" [.str "jump", .str "zero"] = true ∧ He.lstB K "CALLS" [.str "call", .str "tail"] = true
  ∧ oexB K (He.ga K "Stuck") = true ∧ PySem.W.findIn K (.ref (He.ga K "Stuck")) "__setattr__" = some (some (.builtin "object.__setattr__")) ∧ PySem.W.subIn K (.ref (He.ga K "Stuck")) (.type "BaseException") = some true ∧ PySem.W.typeIn K (.ref (He.ga K "Stuck")) = some (.type "type")
  ∧ PySem.W.findIn K (.ref (He.ga K "Stuck")) "__init__" = some (some (.ref (He.ma K (He.ga K "Stuck") "__init__"))) ∧ PySem.W.typeIn K (.ref (He.ma K (He.ga K "Stuck") "__init__")) = some (.type "function")
  ∧ xfB K (He.ga K "Stuck") = true ∧ excCB K (He.ga K "Stuck") = true ∧ excCB K (He.ga K "Unsound") = true
  ∧ PySem.W.kitOne K (.ref (He.ga K "Stuck")) (.ref (He.ga K "Stuck")) = some true ∧ PySem.W.kitOne K (.ref (He.ga K "Unsound")) (.ref (He.ga K "Stuck")) = some false ∧ PySem.W.kitOne K (.ref (He.ga K "Unsound")) (.ref (He.ga K "Unsound")) = some true := by
  have e := c.more
  unfold exB at e
  simp only [Bool.and_eq_true, decide_eq_true_eq] at e
  exact e
theorem tb2_ok (X : K.In h) (G : h.Ns mainGlobals mg) (c : SX w h K) : Tb2 K mg := by
  obtain ⟨_, a1, a2, a3, _⟩ := ex_ok c
  exact ⟨⟨_, He.glo_ok X G (c.t.d.fact 48 (f := .glo "ALONE") rfl), fun H => He.lstB_ok a1 H⟩, ⟨_, He.glo_ok X G (c.t.d.fact 49 (f := .glo "LEAPS") rfl), fun H => He.lstB_ok a2 H⟩, ⟨_, He.glo_ok X G (c.t.d.fact 50 (f := .glo "CALLS") rfl), fun H => He.lstB_ok a3 H⟩⟩
theorem mc_ok (X : K.In h) (G : h.Ns mainGlobals mg) (c : SX w h K) : Mcf K mg (He.ga K "Machine") := by
  have M := He.mkr_ok (c.t.d.fact 73 (f := .mkr "Machine") rfl)
  refine ⟨He.cls_ok (c.t.d.fact 72 (f := .cls "Machine") rfl), fun f hf => ?_, He.glo_ok X G (c.t.d.fact 47 (f := .glo "Machine") rfl), M.makes, M.kp⟩
  simp only [List.mem_cons, List.not_mem_nil, or_false] at hf
  rcases hf with rfl | rfl | rfl | rfl | rfl | rfl | rfl
  · exact He.noat_ok (c.t.d.fact 74 (f := .noat "Machine" "entries") rfl)
  · exact He.noat_ok (c.t.d.fact 75 (f := .noat "Machine" "some") rfl)
  · exact He.noat_ok (c.t.d.fact 76 (f := .noat "Machine" "at") rfl)
  · exact He.noat_ok (c.t.d.fact 77 (f := .noat "Machine" "stack") rfl)
  · exact He.noat_ok (c.t.d.fact 78 (f := .noat "Machine" "frames") rfl)
  · exact He.noat_ok (c.t.d.fact 79 (f := .noat "Machine" "most_frames") rfl)
  · exact He.noat_ok (c.t.d.fact 80 (f := .noat "Machine" "most_stack") rfl)

theorem st_ok (X : K.In h) (G : h.Ns mainGlobals mg) (c : SX w h K) : Stf K mg (He.ga K "Stuck") := by
  obtain ⟨_, _, _, _, a4, a5, a6, a7, a8, a9, _⟩ := ex_ok c
  obtain ⟨fd, F⟩ := c.t.d.def_ 0 rfl
  exact ⟨⟨oexB_ok a4, a5, a6, a7, He.keep_ok (c.t.d.fact 91 (f := .keep "Stuck") rfl)⟩, He.glo_ok X G (c.t.d.fact 45 (f := .glo "Stuck") rfl), He.noat_ok (c.t.d.fact 92 (f := .noat "Stuck" "address") rfl), _, fd, toFun F, a8, a9, F.bindsN fun _ _ _ _ _ _ us hl => match us, hl with | [_, _], _ => rfl⟩
theorem un_ok (X : K.In h) (G : h.Ns mainGlobals mg) (c : SX w h K) : Unf K mg (He.ga K "Unsound") := by
  obtain ⟨e1, e2, e3, e4⟩ := He.exc_ok (c.t.d.fact 88 (f := .exc "Unsound") rfl)
  exact ⟨⟨_, _, _, _, PySem.F.excBase_ValueError, e1⟩, He.glo_ok X G (c.t.d.fact 46 (f := .glo "Unsound") rfl), e2, e3, e4⟩
theorem tol_ok (X : K.In h) (G : h.Ns mainGlobals mg) (c : SX w h K) : TolC K mg (He.ga K "StageError") (He.ga K "Stuck") (He.ga K "Unsound") := by
  obtain ⟨_, _, _, _, _, _, _, _, _, _, b1, b2, b3, b4, b5, b6⟩ := ex_ok c
  exact ⟨He.glo_ok X G (c.t.d.fact 44 (f := .glo "StageError") rfl), He.glo_ok X G (c.t.d.fact 45 (f := .glo "Stuck") rfl), He.glo_ok X G (c.t.d.fact 46 (f := .glo "Unsound") rfl), He.free_ok X G (c.t.d.fact 53 (f := .free "isinstance") rfl), He.exm_ok (c.t.d.fact 89 (f := .exm "Stuck" "StageError" true) rfl), He.exm_ok (c.t.d.fact 90 (f := .exm "Unsound" "StageError" true) rfl), excCB_ok b2, excCB_ok b3, xfB_ok b1, He.noat_ok (c.t.d.fact 92 (f := .noat "Stuck" "address") rfl), b4, b5, b6⟩
end
end M10
set_option Elab.async false
set_option linter.all false
set_option maxRecDepth 100000
set_option maxHeartbeats 4000000
namespace M10
open PySem PySem.Spec PyProof.Rows L2 Evl
theorem l_exprs {P : Program} {w : World} {K : PySem.W.Frag} {mg : Str → Option Value} {base : Heap} {sa : Addr} (De : Dd K mg "_law_expression" s_law_expression ["_law_row", "_law_deep", "_law_lates_here", "_law_names", "_law_is_hot"]) (Dt : Dd K mg "_law_test" s_law_test ["_law_row", "_law_deep", "_law_lates_here", "_law_names", "_law_is_hot"]) (T : Tb K mg)
    (c1 : Dn P w K mg base L2.CX0 1 "_law_taken" (spTaken K sa)) (c2 : Dn P w K mg base L2.CX0 2 "_law_pick" (spPick K sa)) (c3 : Dn P w K mg base L2.CX0 3 "_law_move" (spMove K sa)) (c4 : Dn P w K mg base L2.CX0 30 "_law_is_early" (spEar 30)) :
    ∀ n : Nat, n ≤ 9 → Dn P w K mg base L2.CX0 (30 + n) "_law_expression" (spExpr K sa n) ∧ Dn P w K mg base L2.CX0 (30 + n) "_law_test" (spTest K sa n)
  | 0, _ => ⟨De.none fun vs H Q E h => by
      obtain ⟨r, l, ns, L, d, b, _, _, h1, h2, _⟩ := h
      omega, Dt.none fun vs H Q E h => by
      obtain ⟨r, l, ns, L, d, b, _, _, h1, h2, _⟩ := h
      omega⟩
  | n + 1, hn => by
    obtain ⟨e, t⟩ := l_exprs De Dt T c1 c2 c3 c4 n (by omega)
    exact ⟨ok_l_expression De T (k := 30 + n) (by omega) c1 c2 c3 e t, ok_l_test Dt T (k := 30 + n) (by omega) c1 c2 c4 (by omega) e⟩
/-- what the program's defs do, at the head's heap -/
theorem law_fn {P : Program} {w : World} {K : PySem.W.Frag} {h base : Heap} {mg : Str → Option Value} (X : K.In h) (G : h.Ns mainGlobals mg) (c : SX w h K) {fd : FuncData} (F : L2.Fun K "law" "law" s_law (He.ga K "law") fd) (hcl : fd.code = .ref (He.cT K ("law", none)).1)
    (tL : LamX.TabB base mg (He.cT K ("law", none)).1 (He.cT K ("law", none)).2) (tC : LamX.TabB base mg (He.cT K ("need_code", none)).1 (He.cT K ("need_code", none)).2) (tN : LamX.TabB base mg (He.cT K ("need_lates", none)).1 (He.cT K ("need_lates", none)).2) :
    FnOk P w K mg base (L2.CX P w) 47 (He.ga K "law") fd ["_law_script"] (spLaw K (He.cT K ("law", none)).2 [(He.cT K ("need_code", none)).2, (He.cT K ("need_lates", none)).2]) := by
  have T := tb_ok X G c
  have T2 := tb2_ok X G c
  have MC := mc_ok X G c
  have ST := st_ok X G c
  have UN := un_ok X G c
  have TO := tol_ok X G c
  have nPt : (He.cT K ("law", none)).2 ∉ [(He.cT K ("need_code", none)).2, (He.cT K ("need_lates", none)).2] := by
    have e := (ex_ok c).1
    unfold farB at e
    simp only [Bool.and_eq_true, Bool.not_eq_true', beq_eq_false_iff_ne] at e
    intro z
    simp only [List.mem_cons, List.not_mem_nil, or_false] at z
    rcases z with z | z
    · exact e.1 z
    · exact e.2 z
  have c_is_in := ok_is_in (P := P) (w := w) (base := base) (d_is_in X G c) T
  have c_is_tuple := ok_is_tuple (P := P) (w := w) (base := base) (d_is_tuple X G c) T
  have c_need_fuel := ok_need_fuel (d_need_fuel X G c) T c_is_in
  have c_is_instruction := ok_is_instruction (d_is_instruction X G c) T T2 c_is_in c_is_tuple
  have c_need_lates := ok_need_lates (P := P) (w := w) (Pt := [(He.cT K ("need_code", none)).2, (He.cT K ("need_lates", none)).2]) (by simp) (d_need_lates X G c) ⟨tN.code, tN.bm, tN.gP⟩ (d_is_in X G c) T
  have c_need_code := ok_need_code (Pt := [(He.cT K ("need_code", none)).2, (He.cT K ("need_lates", none)).2]) (by simp) (d_need_code X G c) ⟨tC.code, tC.bm, tC.gP⟩ (d_is_in X G c) (d_is_entry X G c) T c_is_instruction
  have c_worked := ok_worked (P := P) (w := w) (base := base) (d_worked X G c) T
  have c_put := ok_put (P := P) (w := w) (base := base) (m_put c) MC T
  have c_take := ok_take (P := P) (w := w) (base := base) (m_take c) MC ST T
  have c_compute := ok_compute (m_compute c) MC T c_take c_put c_worked
  have c_leave := ok_leave (P := P) (w := w) (base := base) (m_leave c) MC ST T
  have c_enter := ok_enter (m_enter c) MC T c_take
  have c_plain_step := ok_pstep (m_plain_step c) MC ST T c_put c_compute
  have c_step := ok_step (m_step c) MC ST T c_leave c_enter c_take c_plain_step
  have c_init := ok_minit (P := P) (w := w) (base := base) (m_init c) MC
  have c_machine_run := ok_run (d_machine_run X G c) MC T c_need_code c_need_lates c_need_fuel c_init c_step
  have c_needs := ok_needs (P := P) (w := w) (base := base) (d_needs X G c) T
  have c_nexts := ok_nexts (P := P) (w := w) (base := base) (d_nexts X G c) T
  have c_is_sound := ok_is_sound (d_is_sound X G c) T c_needs
  have c_put_heights := ok_put_heights (d_put_heights X G c) UN T c_needs c_nexts c_is_sound
  have c_spans := ok_spans (P := P) (w := w) (base := base) (d_spans X G c) T
  have c_heights_of := ok_heights_of (d_heights_of X G c) T c_spans c_put_heights
  have c_heights := ok_heights (d_heights X G c) T c_need_code c_heights_of
  have c_deepest := ok_deepest (d_deepest X G c) T c_need_code c_heights_of c_needs
  have c_taken : ∀ sa, Dn P w K mg base L2.CX0 1 "_law_taken" (spTaken K sa) := fun sa => ok_l_taken (d_law_taken X G c) T
  have c_pick : ∀ sa, Dn P w K mg base L2.CX0 2 "_law_pick" (spPick K sa) := fun sa => ok_l_pick (d_law_pick X G c) T (c_taken sa)
  have c_early := l_is_early (P := P) (w := w) (base := base) (d_law_is_early X G c) T 30
  have c_program : ∀ sa, Dn P w K mg base L2.CX0 39 "_law_program" (spProgram K sa) := fun sa =>
    ok_l_program (d_law_program X G c) T (c_taken sa) (ok_l_name (d_law_name X G c) T (c_pick sa)) (l_exprs (d_law_expression X G c) (d_law_test X G c) T (c_taken sa) (c_pick sa) (ok_l_move (d_law_move X G c) T (c_taken sa) (c_pick sa)) c_early 8 (by decide)).1
  have c_body := ok_l_body (P := P) (w := w) (base := base) (d_law_body X G c) T
  have c_lates := ok_l_lates (P := P) (w := w) (base := base) (d_law_lates X G c) T
  have c_lworked := ok_l_worked (P := P) (w := w) (base := base) (d_law_worked X G c) T
  have c_moved := ok_l_moved (P := P) (w := w) (base := base) (d_law_moved X G c) T
  have c_holds := ok_l_holds (P := P) (w := w) (base := base) (d_law_holds X G c) T
  have c_left := l_left (d_law_left X G c) T c_holds c_moved c_lworked c_early 12 (by decide)
  have c_calls := l_calls (d_law_calls X G c) T (ok_l_parts (P := P) (w := w) (base := base) (d_law_parts X G c) T) 12
  have c_called := ok_l_called (d_law_called X G c) T c_body c_left c_calls
  have c_points := ok_l_points (d_law_points X G c) T c_called
  have c_staged := ok_l_staged (d_law_staged X G c) T c_points c_lates c_body c_left
  have c_plain : ∀ sa, Dn P w K mg base L2.CX0 46 "_law_plain" (spPlain K sa) := fun sa => ok_l_plain (d_law_plain X G c) T (c_program sa) (c_pick sa) (c_taken sa) c_staged
  have c_code := ok_l_code (P := P) (w := w) (base := base) (d_law_code X G c) T (l_put (d_law_put X G c) T 12)
  have c_alike := l_alike (P := P) (w := w) (base := base) (d_law_alike X G c) T 2
  have c_lheights := ok_l_heights (P := P) (w := w) (base := base) (d_law_heights X G c) T
  have c_machine := ok_l_machine (d_law_machine X G c) T c_lworked
  obtain ⟨gT, fdT, FT, mT, bT⟩ := d_law_told X G c
  exact ok_law F hcl T TO tL nPt FT mT bT c_alike c_lheights c_heights c_deepest c_machine c_machine_run c_code c_plain c_pick c_taken
theorem law_at {P : PySem.W.OpenLaw} {w : World} {K : PySem.W.Frag} {h : Heap} {mg : Str → Option Value} {f : Addr} (X : K.In h) (G : h.Ns mainGlobals mg) (hfa : mg ("law" : Str) = some (.ref f)) (c : SX w h K) : LamX.LawAtS P w K (L2.CX P.prog w) 47 63 "_law_script" mg f h := by
  obtain ⟨fd, F⟩ := c.t.d.def_ 52 rfl
  have e := hfa.symm.trans (He.glo_ok X G (c.t.d.fact 43 (f := .glo "law") rfl))
  cases e
  have b := FunD.bindsA (ps := ["_law_script"]) F fun _ _ _ _ _ _ us hl => match us, hl with | [_], _ => rfl
  have i0 : (("law", none) : He.Defn) ∈ tf := List.mem_cons_self
  have i1 : (("need_code", none) : He.Defn) ∈ tf := List.mem_cons_of_mem _ List.mem_cons_self
  have i2 : (("need_lates", none) : He.Defn) ∈ tf := List.mem_cons_of_mem _ (List.mem_cons_of_mem _ List.mem_cons_self)
  refine ⟨fd, tf.map (He.cT K), spLaw K (He.cT K ("law", none)).2 [(He.cT K ("need_code", none)).2, (He.cT K ("need_lates", none)).2], fun p hp => ?_, fun p hp => ?_, fun p hp => ?_, fun s u => b s [u] rfl, fun H a ns _ _ hH hS => ⟨a, ns, rfl, hH _ (List.mem_map_of_mem i0), fun p hp => ?_, hS, fun _ => rfl⟩, fun base _ _ hT => ?_⟩
  · obtain ⟨d, hd, rfl⟩ := List.mem_map.mp hp
    exact c.empty d hd
  · obtain ⟨d, hd, rfl⟩ := List.mem_map.mp hp
    exact c.out d hd
  · obtain ⟨d, hd, rfl⟩ := List.mem_map.mp hp
    exact PySem.W.codeHd_of_K X (c.hd d hd)
  · simp only [List.mem_cons, List.not_mem_nil, or_false] at hp
    rcases hp with rfl | rfl
    · exact hH _ (List.mem_map_of_mem i1)
    · exact hH _ (List.mem_map_of_mem i2)
  · exact law_fn X G c (toFun F) (codeAt_ F) (hT _ (List.mem_map_of_mem i0)) (hT _ (List.mem_map_of_mem i1)) (hT _ (List.mem_map_of_mem i2))

end M10
set_option Elab.async false
set_option linter.all false
set_option maxRecDepth 100000
set_option maxHeartbeats 0
namespace M10
open PySem PySem.Spec PyProof.Rows L2
theorem none_out (P : Program) (w : World) (H : Hp) (s : Shared) (e : Value) (s' : Shared) (x : L2.CX P w [] H s (fun _ _ _ => False) e s') : False := by
  obtain ⟨_, _, _, _, _, _, _, _, _, _, _, _, z⟩ := x
  exact z
end M10
open PySem PySem.W PySem.Calls PyProof.Rows
theorem PySem.Challenge.cw_staged_k10_whole_machines_holds : PySem.Challenge.rw_staged_k10_whole_machines.Holds := by
  w_on; o_law
  refine HandSHeadRun.head_any (r := OpenLaw.row PySem.Challenge.rw_staged_k10_whole_machines) (q := view (OpenLaw.row PySem.Challenge.rw_staged_k10_whole_machines).prog [69]) (H := M10.hk) (ob := M10.ob) (M := 4000) (loose := M10.loose) (d := HandSHeadRun.topDef (OpenLaw.row PySem.Challenge.rw_staged_k10_whole_machines).prog 69) (kwd := []) M10.ob_eq
    (by kernel_rfl) (fun s => by kernel_rfl) M10.run (by kernel_rfl) (by kernel_rfl) (by kernel_rfl) (by rfl) (by first | assumption | decide +kernel) (by decide +kernel) ⟨rfl, rfl, rfl, rfl, rfl, by decide +kernel⟩ ?hw ?hc
  case hw => w_witness2
  case hc =>
    refine LamX.walk_ofTsE (l := PySem.Challenge.rw_staged_k10_whole_machines) (n := 63) (k := 47) (x := "_law_script") (CX := fun w => L2.CX PySem.Challenge.rw_staged_k10_whole_machines.prog w) rfl (by decide) (by kernel_rfl) ⟨rfl, by decide, by decide⟩ ?F (fun w => M10.none_out _ w)
    intro w mg f h Y G hm0
    obtain ⟨K, KX, c⟩ := Y
    have hm : mg ("law" : PySem.Str) = some (.ref f) := by
      have e : (HandSHeadRun.topDef (OpenLaw.row PySem.Challenge.rw_staged_k10_whole_machines).prog 69).name = ("law" : PySem.Str) := by kernel_rfl
      rw [← e]
      exact hm0
    exact ⟨K, KX, M10.law_at KX G hm c⟩
