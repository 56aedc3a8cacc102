import PyProof.Rows.All
import Wide.All
import OpenK.AllK
import Wide.FinOn
import HandS.ForMost
import HandS.ForExc
import HandS.Flow
import HandS.Style
import HandS.TupAny
import HandS.Codes
import HandS.Words
import HandS.List
import HandS.Dict
import HandS.Walk
import HandS.Property
import HandS.IsInst
import HandS.Defaults
import HandS.SlotsOwn
import PyProof.InstEq
import HandS.Set
import HandS.SetFor
import HandS.SetKeys
import HandS.TupSets
import PyProof.CollectStr
import KE.KDictList
import HandS.Conv
import HandS.Head0
import HandS.Head1
import HandS.Head2
import HandS.HeadEnd
import HandS.HeadHook1
import HandS.HeadHook2
import HandS.MakeKw
import PySem.Challenge.RW_linelooks_k05_trees
set_option Elab.async false
set_option linter.all false
set_option maxRecDepth 100000
set_option maxHeartbeats 4000000
namespace G
open PySem PySem.Spec PyProof.Rows L2

/-! ### where one stands: the program, the world, what the text has written -/
structure Gm where
  P : Program
  w : World
  K : PySem.W.Frag
  mg : Str → Option Value
  base : Heap
  lv : Nat := 0
/-- the same, with room for calls n deep -/
abbrev Gm.at (Γ : Gm) (n : Nat) : Gm := { Γ with lv := n }
structure Good (Γ : Gm) (X : Cx) : Prop where
  P : X.prog = Γ.P
  w : X.w = Γ.w
  K : X.K = Γ.K
  mg : X.mg = Γ.mg
  base : X.base = Γ.base
  calm : X.calm = true
  room : Room Γ.lv X.A
theorem Good.blk {Γ : Gm} {X : Cx} (g : Good Γ X) {s : Shared} {H : Hp} {scope : Scope} {cenv : Env} {fp : List Addr} : Good Γ (X.blk s H scope cenv fp) := ⟨g.P, g.w, g.K, g.mg, g.base, g.calm, g.room⟩
theorem Good.of {Γ : Gm} {CX : CXT} {N : List Str} {qual : Str} {scope : Scope} {f : Addr} {cd : Value} {A : Around} {outer : List Env} {s : Shared} {H : Hp} {E : XK} {k : Nat} (hr : Room k (A.deeper (envOfC qual scope s.heap.objs.size f cd))) :
    Good (Γ.at k) (cxOf CX Γ.P Γ.w Γ.K Γ.mg Γ.base N qual scope f cd A outer s H E) := ⟨rfl, rfl, rfl, rfl, rfl, rfl, hr⟩
theorem Good.nox {Γ : Gm} {X : Cx} (g : Good Γ X) : Good Γ X.nox := ⟨g.P, g.w, g.K, g.mg, g.base, g.calm, g.room⟩
theorem Good.hu {Γ : Gm} {X : Cx} (g : Good Γ X) : X.A.units + 1 < cLine := hu_of (g.room.mono (Nat.zero_le _))
theorem Good.hu64 {Γ : Gm} {X : Cx} (g : Good Γ X) : X.A.units + 64 < cLine := g.room.units

/-! ### weakest rules by values: which rule serves is chosen when the values are known -/
section
variable {Γ : Gm} {X : Cx}
def WO (Γ : Gm) (f : Value → Value → Sem Value) : R2 := fun x y H Q => ∃ r, (∀ X, Good Γ X → OpR X f r) ∧ r x y H Q
theorem WO.ok (g : Good Γ X) {f : Value → Value → Sem Value} : OpR X f (WO Γ f) := fun pins s σ H x y v u Q I rx ry ⟨r, h, q⟩ => h X g pins s σ H x y v u Q I rx ry q
def WU (Γ : Gm) (f : Value → Sem Value) : V → Hp → VK → Prop := fun x H Q => ∃ r, (∀ X, Good Γ X → UnR X f r) ∧ r x H Q
theorem WU.ok (g : Good Γ X) {f : Value → Sem Value} : UnR X f (WU Γ f) := fun pins s σ H x v Q I rx ⟨r, h, q⟩ => h X g pins s σ H x v Q I rx q
def WC (Γ : Gm) (f : Value) : List V → Hp → VK → Prop := fun xs H Q => ∃ r, (∀ X, Good Γ X → CallR X f r) ∧ r xs H Q
theorem WC.ok (g : Good Γ X) {f : Value} : CallR X f (WC Γ f) := fun pins s σ H xs us Q I r ⟨_, h, q⟩ => h X g pins s σ H xs us Q I r q
def WX (Γ : Gm) : R2 := fun x y H Q => ∃ r, (∀ X, Good Γ X → IxR X r) ∧ r x y H Q
theorem WX.ok (g : Good Γ X) : IxR X (WX Γ) := fun value slice pins s σ H x y v u Q I rx ry ⟨_, h, q⟩ hs => h X g value slice pins s σ H x y v u Q I rx ry q hs
def WL (Γ : Gm) : V → Option Int → Option Int → Hp → VK → Prop := fun x lo hi H Q => ∃ r, (∀ X, Good Γ X → SlR X r) ∧ r x lo hi H Q
theorem WL.ok (g : Good Γ X) : SlR X (WL Γ) := fun pins s σ H x v vl vu lo hi sl Q I rx hs pl pu ⟨_, h, q⟩ => h X g pins s σ H x v vl vu lo hi sl Q I rx hs pl pu q
def WP (Γ : Gm) : TSet := fun o i v H Q => ∃ t, (∀ X, Good Γ X → PSet X t) ∧ t o i v H Q
theorem WP.ok (g : Good Γ X) : PSet X (WP Γ) := fun pins s σ H o i v ov iv u Q I ro ri rv ⟨_, h, q⟩ => h X g pins s σ H o i v ov iv u Q I ro ri rv q
def WI (Γ : Gm) (op : Operator) : TIp := fun x y H Q => ∃ t, (∀ X, Good Γ X → PIp X op t) ∧ t x y H Q
theorem WI.ok (g : Good Γ X) {op : Operator} : PIp X op (WI Γ op) := fun pins s σ H x y v u Q I rx ry ⟨_, h, q⟩ => h X g pins s σ H x y v u Q I rx ry q
end

/-! ### ints -/
section
variable {Γ : Gm} {H : Hp} {Q : VK} {i j : Int}
theorem wo_add (h : Q (.int (i + j)) H) : WO Γ (binaryOp .Add) (.int i) (.int j) H Q := ⟨_, fun _ _ => op_add, i, j, rfl, rfl, h⟩
theorem wo_sub (h : Q (.int (i - j)) H) : WO Γ (binaryOp .Sub) (.int i) (.int j) H Q := ⟨_, fun _ _ => op_sub, i, j, rfl, rfl, h⟩
theorem wo_mulL (h1 : -(2 ^ 64) < i) (h2 : i < 2 ^ 64) (h : Q (.int (i * j)) H) : WO Γ (binaryOp .Mult) (.int i) (.int j) H Q := ⟨_, fun _ _ => op_mul, i, j, rfl, rfl, .inl ⟨h1, h2⟩, h⟩
theorem wo_mulR (h1 : -(2 ^ 64) < j) (h2 : j < 2 ^ 64) (h : Q (.int (i * j)) H) : WO Γ (binaryOp .Mult) (.int i) (.int j) H Q := ⟨_, fun _ _ => op_mul, i, j, rfl, rfl, .inr ⟨h1, h2⟩, h⟩
theorem wo_fdiv (h1 : 0 < j) (h2 : j < 1073741824) (h : Q (.int (i / j)) H) : WO Γ (binaryOp .FloorDiv) (.int i) (.int j) H Q := ⟨_, fun _ _ => op_fdiv, i, j, rfl, rfl, ⟨h1, h2⟩, h⟩
theorem wo_mod (hb : 0 < j) (h : Q (.int (i % j)) H) : WO Γ (binaryOp .Mod) (.int i) (.int j) H Q := ⟨_, fun _ _ => op_mod, i, j, rfl, rfl, hb, h⟩
theorem wo_pow (h1 : 0 ≤ j) (h2 : j ≤ 1000000) (h3 : i.natAbs < 2 ^ 64) (h : Q (.int (i ^ j.toNat)) H) : WO Γ (binaryOp .Pow) (.int i) (.int j) H Q := ⟨_, fun _ _ => op_pow, i, j, rfl, rfl, ⟨h1, h2, h3⟩, h⟩
theorem wo_lt (h : Q (.bl (decide (i < j))) H) : WO Γ (compareOp .Lt) (.int i) (.int j) H Q := ⟨_, fun _ _ => op_lt, i, j, rfl, rfl, h⟩
theorem wo_le (h : Q (.bl (decide (i ≤ j))) H) : WO Γ (compareOp .LtE) (.int i) (.int j) H Q := ⟨_, fun _ _ => op_le, i, j, rfl, rfl, h⟩
theorem wo_gt (h : Q (.bl (decide (j < i))) H) : WO Γ (compareOp .Gt) (.int i) (.int j) H Q := ⟨_, fun _ _ => op_gt, i, j, rfl, rfl, h⟩
theorem wo_ge (h : Q (.bl (decide (j ≤ i))) H) : WO Γ (compareOp .GtE) (.int i) (.int j) H Q := ⟨_, fun _ _ => op_ge, i, j, rfl, rfl, h⟩
theorem wo_eqI (h : Q (.bl (decide (i = j))) H) : WO Γ (compareOp .Eq) (.int i) (.int j) H Q := ⟨_, fun _ _ => op_eq, rfl, by
  have e : decide (V.int i = V.int j) = decide (i = j) := decide_eq_decide.mpr ⟨fun z => V.int.inj z, fun z => by rw [z]⟩
  rw [e]; exact h⟩
theorem wo_neI (h : Q (.bl (!decide (i = j))) H) : WO Γ (compareOp .NotEq) (.int i) (.int j) H Q := ⟨_, fun _ _ => op_ne, rfl, by
  have e : decide (V.int i = V.int j) = decide (i = j) := decide_eq_decide.mpr ⟨fun z => V.int.inj z, fun z => by rw [z]⟩
  rw [e]; exact h⟩
theorem wo_eqS {x y : Str} (h : Q (.bl (decide (x = y))) H) : WO Γ (compareOp .Eq) (.str x) (.str y) H Q := ⟨_, fun _ _ => op_eq, rfl, by
  have e : decide (V.str x = V.str y) = decide (x = y) := decide_eq_decide.mpr ⟨fun z => V.str.inj z, fun z => by rw [z]⟩
  rw [e]; exact h⟩
theorem wo_neS {x y : Str} (h : Q (.bl (!decide (x = y))) H) : WO Γ (compareOp .NotEq) (.str x) (.str y) H Q := ⟨_, fun _ _ => op_ne, rfl, by
  have e : decide (V.str x = V.str y) = decide (x = y) := decide_eq_decide.mpr ⟨fun z => V.str.inj z, fun z => by rw [z]⟩
  rw [e]; exact h⟩
theorem wo_isN {x : V} (h : Q (.bl (decide (x = .non))) H) : WO Γ (compareOp .Is) x .non H Q := ⟨_, fun _ _ => op_isN, rfl, h⟩
theorem wo_notN {x : V} (h : Q (.bl (!decide (x = .non))) H) : WO Γ (compareOp .IsNot) x .non H Q := ⟨_, fun _ _ => op_notN, rfl, h⟩
theorem wu_neg (h : Q (.int (-i)) H) : WU Γ (unaryOp .USub) (.int i) H Q := ⟨_, fun _ _ => un_neg, i, rfl, h⟩
theorem wc_abs (h : Q (.int (if i < 0 then -i else i)) H) : WC Γ (.builtin "abs") [.int i] H Q := ⟨_, fun _ _ => call_abs, i, rfl, h⟩
theorem wc_int (h : Q (.int i) H) : WC Γ (.type "int") [.int i] H Q := ⟨_, fun _ _ => call_int1, .inl ⟨i, rfl, h⟩⟩
theorem wc_intB {b : Bool} (h : Q (.int (if b then 1 else 0)) H) : WC Γ (.type "int") [.bl b] H Q := ⟨_, fun _ _ => call_int1, .inr ⟨b, rfl, h⟩⟩
theorem wc_min2 (h : Q (.int (if j < i then j else i)) H) : WC Γ (.builtin "min") [.int i, .int j] H Q := ⟨_, fun _ g => call_min2 g.calm, i, j, rfl, h⟩
theorem wc_max2 (h : Q (.int (if j > i then j else i)) H) : WC Γ (.builtin "max") [.int i, .int j] H Q := ⟨_, fun _ g => call_max2 g.calm, i, j, rfl, h⟩
end

/-! ### the built-in names -/
theorem bt_len : bootBuiltins "len" = some (.builtin "len") := by first | exact PyProof.Rows.boot_len | exact PySem.boot_len | decide +kernel
theorem bt_abs : bootBuiltins "abs" = some (.builtin "abs") := by first | exact PyProof.Rows.boot_abs | exact PySem.boot_abs | decide +kernel
theorem bt_min : bootBuiltins "min" = some (.builtin "min") := by first | exact PyProof.Rows.boot_min | exact PySem.boot_min | decide +kernel
theorem bt_max : bootBuiltins "max" = some (.builtin "max") := by first | exact PyProof.Rows.boot_max | exact PySem.boot_max | decide +kernel
theorem bt_sum : bootBuiltins "sum" = some (.builtin "sum") := by first | exact PyProof.Rows.boot_sum | exact PySem.boot_sum | decide +kernel
theorem bt_sorted : bootBuiltins "sorted" = some (.builtin "sorted") := by first | exact PyProof.Rows.boot_sorted | exact PySem.boot_sorted | decide +kernel
theorem bt_all : bootBuiltins "all" = some (.builtin "all") := by first | exact PyProof.Rows.boot_all | exact PySem.boot_all | decide +kernel
theorem bt_any : bootBuiltins "any" = some (.builtin "any") := by first | exact PyProof.Rows.boot_any | exact PySem.boot_any | decide +kernel
theorem bt_isinstance : bootBuiltins "isinstance" = some (.builtin "isinstance") := by first | exact PyProof.Rows.boot_isinstance | exact PySem.boot_isinstance | decide +kernel
theorem bt_ord : bootBuiltins "ord" = some (.builtin "ord") := by first | exact PyProof.Rows.boot_ord | exact PySem.boot_ord | decide +kernel
theorem bt_chr : bootBuiltins "chr" = some (.builtin "chr") := by first | exact PyProof.Rows.boot_chr | exact PySem.boot_chr | decide +kernel
theorem bt_int : bootBuiltins "int" = some (.type "int") := by first | exact PyProof.Rows.boot_int | exact PySem.boot_int | decide +kernel
theorem bt_str : bootBuiltins "str" = some (.type "str") := by first | exact PyProof.Rows.boot_str | exact PySem.boot_str | decide +kernel
theorem bt_list : bootBuiltins "list" = some (.type "list") := by first | exact PyProof.Rows.boot_list | exact PySem.boot_list | decide +kernel
theorem bt_tuple : bootBuiltins "tuple" = some (.type "tuple") := by first | exact PyProof.Rows.boot_tuple | exact PySem.boot_tuple | decide +kernel
theorem bt_set : bootBuiltins "set" = some (.type "set") := by first | exact PyProof.Rows.boot_set | exact PySem.boot_set | decide +kernel
theorem bt_dict : bootBuiltins "dict" = some (.type "dict") := by first | exact PyProof.Rows.boot_dict | exact PySem.boot_dict | decide +kernel
theorem bt_bool : bootBuiltins "bool" = some (.type "bool") := by first | exact PyProof.Rows.boot_bool | exact PySem.boot_bool | decide +kernel
theorem bt_enumerate : bootBuiltins "enumerate" = some (.type "enumerate") := by first | exact PyProof.Rows.boot_enumerate | exact PySem.boot_enumerate | decide +kernel
theorem bt_zip : bootBuiltins "zip" = some (.type "zip") := by first | exact PyProof.Rows.boot_zip | exact PySem.boot_zip | decide +kernel
theorem bt_reversed : bootBuiltins "reversed" = some (.type "reversed") := by first | exact PyProof.Rows.boot_reversed | exact PySem.boot_reversed | decide +kernel
theorem bt_range : bootBuiltins "range" = some (.type "range") := by first | exact PyProof.Rows.boot_range | exact PySem.boot_range | decide +kernel

/-! ### defs: where they stand, what they promise -/
/-- a def of the module, every parameter given -/
structure Dfn (Γ : Gm) (x : Str) (st : Stmt) (ps : List Str) : Prop where
  ex : ∃ (f : Addr) (fd : FuncData), L2.Fun Γ.K x x st f fd ∧ Γ.mg x = some (.ref f) ∧ Binds Γ.K fd ps []
/-- what a def (at its name) promises; dvs: its defaults behind what is given -/
structure Cl (Γ : Gm) (CX : CXT) (k : Nat) (x : Str) (sp : Sp) (dvs : List V) : Prop where
  ex : ∃ (f : Addr) (fd : FuncData) (ps : List Str) (ds : List Value), FnOk Γ.P Γ.w Γ.K Γ.mg Γ.base CX k f fd ps sp ∧ Γ.mg x = some (.ref f) ∧ PySem.W.keepIn Γ.K (.ref f) = true ∧ Binds Γ.K fd ps ds ∧ Vals dvs ds
theorem Dfn.cl {Γ : Gm} {x : Str} {st : Stmt} {ps N : List Str} {k : Nat} {sp : Sp} (d : Dfn Γ x st ps) (S : FnScope N ps (defScope st)) (len : ∀ vs H Q E, sp vs H Q E → vs.length = ps.length)
    (hbody : ∀ (f : Addr) (cdv : Value) (A : Around) (outer : List Env) (s : Shared) (H : Hp) (vs : List V) (Q : VK) (E : XK), Good (Γ.at k) (cxOf CX0 Γ.P Γ.w Γ.K Γ.mg Γ.base N x (defScope st) f cdv A outer s H E).nox → sp vs H Q E →
      ∃ t, PSs (cxOf CX0 Γ.P Γ.w Γ.K Γ.mg Γ.base N x (defScope st) f cdv A outer s H E).nox (defBody st) t ∧ t { nx := fun _ H' => Q .non H', rt := Q } (L2.start N vs) H) : Cl Γ CX0 (k + 1) x sp [] := by
  obtain ⟨f, fd, F, m, b⟩ := d.ex
  exact ⟨f, fd, ps, [], F.ok S len fun cdv A outer s H vs Q E hr h => hbody f cdv A outer s H vs Q E (Good.of hr).nox h, m, F.kp, b, .nil⟩
/-- nothing is asked of it -/
theorem Dfn.cl_no {Γ : Gm} {x : Str} {st : Stmt} {ps N : List Str} {sp : Sp} (d : Dfn Γ x st ps) (S : FnScope N ps (defScope st)) (no : ∀ vs H Q E, ¬ sp vs H Q E) : Cl Γ CX0 1 x sp [] :=
  d.cl (k := 0) S (fun vs H Q E h => (no vs H Q E h).elim) fun f cdv A outer s H vs Q E g h => (no vs H Q E h).elim
theorem Cl.imp {Γ : Gm} {CX : CXT} {j k : Nat} {x : Str} {sp sp' : Sp} {dvs : List V} (c : Cl Γ CX k x sp dvs) (h : ∀ vs H Q E, sp' vs H Q E → sp vs H Q E) (hk : k ≤ j) : Cl Γ CX j x sp' dvs := by
  obtain ⟨f, fd, ps, ds, F, r⟩ := c.ex
  exact ⟨f, fd, ps, ds, (F.imp h).mono hk, r⟩
section
variable {Γ : Gm} {X : Cx} {CX : CXT} {k j : Nat} {x : Str} {sp : Sp} {dvs : List V} {E : XK} {p pos : Pos} {e : Expr} {es : List Expr} {t : TA}
theorem pe_cl (c : Cl Γ CX k x sp dvs) (g : Good (Γ.at j) X) (hk : k ≤ j) (hg : Gl X x) (hx : Passes CX X E) (ha : PA X (e :: es) t)
    (hdb : (x == ("__debug__" : Str)) = false := by decide) (he : starEach (e :: es) X.env = (false, eval e X.env) :: starEach es X.env := by rfl) (hpl : (backTo pos (starEach es X.env)).any (·.1) = false := by rfl) :
    PE X (.Call (.Name x p) (e :: es) [] pos) (tCall sp dvs E t) := by
  obtain ⟨P, w, K, mg, base, lv⟩ := Γ
  obtain ⟨f, fd, ps, ds, F, m, kp, b, d⟩ := c.ex
  obtain ⟨h1, h2, h3, h4, h5, _, hr⟩ := g
  simp only at h1 h2 h3 h4 h5 hr
  subst h1 h2 h3 h4 h5
  exact pe_call (F.mono hk) hr hg m kp b d hx ha hdb he hpl
theorem pe_cl0 (c : Cl Γ CX k x sp dvs) (g : Good (Γ.at j) X) (hk : k ≤ j) (hg : Gl X x) (hx : Passes CX X E)
    (hdb : (x == ("__debug__" : Str)) = false := by decide) : PE X (.Call (.Name x p) [] [] pos) (tCall sp dvs E tNil) := by
  obtain ⟨P, w, K, mg, base, lv⟩ := Γ
  obtain ⟨f, fd, ps, ds, F, m, kp, b, d⟩ := c.ex
  obtain ⟨h1, h2, h3, h4, h5, _, hr⟩ := g
  simp only at h1 h2 h3 h4 h5 hr
  subst h1 h2 h3 h4 h5
  exact pe_call0 (F.mono hk) hr hg m kp b d hx hdb
end
end G
namespace G
open PySem PySem.Spec PyProof.Rows L2

/-! ### readings that reduce by computation where the values are known -/
/-- the i-th slot's value -/
def so : Option V → (V → Prop) → Prop
  | some v, k => k v
  | none, _ => False
def sl : L2.St → Nat → (V → Prop) → Prop
  | [], _, _ => False
  | o :: _, 0, k => so o k
  | _ :: r, n + 1, k => sl r n k
theorem sl_get : ∀ {σ : L2.St} {i : Nat} {k : V → Prop}, sl σ i k → ∃ v, σ[i]? = some (some v) ∧ k v
  | some v :: _, 0, k, h => ⟨v, rfl, h⟩
  | none :: _, 0, _, h => h.elim
  | o :: r, n + 1, k, h => by
    obtain ⟨v, e, q⟩ := sl_get (σ := r) (i := n) h
    exact ⟨v, by simpa using e, q⟩
  | [], _, _, h => h.elim
/-- the name x is a place of the def's own, i among N; it is no name that the machine treats apart -/
def nvB (N : List Str) (sc : Scope) (i : Nat) (x : Str) : Bool := decide (N[i]? = some x) && (sc.names.lookup x == some .local || sc.names.lookup x == some .cell || sc.names.lookup x == some .free) && !(x == ("__debug__" : Str)) && !(x == ("__classdict__" : Str))
/-- .. and it may be stored -/
def lvB (N : List Str) (sc : Scope) (i : Nat) (x : Str) : Bool := decide (N[i]? = some x) && (sc.names.lookup x == some .local || sc.names.lookup x == some .cell)
/-- the name x is a global one of the def -/
def gvB (sc : Scope) (x : Str) : Bool := (sc.names.lookup x == some .globalImplicit) && !(x == ("__debug__" : Str)) && !(x == ("__name__" : Str))
theorem nv_of {N : List Str} {sc : Scope} {i : Nat} {x : Str} (h : nvB N sc i x = true) : N[i]? = some x ∧ Vis sc x ∧ (x == ("__debug__" : Str)) = false ∧ (x == ("__classdict__" : Str)) = false := by
  unfold nvB at h
  simp only [Bool.and_eq_true, Bool.or_eq_true, decide_eq_true_eq, beq_iff_eq, Bool.not_eq_true'] at h
  obtain ⟨⟨⟨h1, h2⟩, h3⟩, h4⟩ := h
  exact ⟨h1, h2.elim (fun h => h.elim .inl fun h => .inr (.inl h)) fun h => .inr (.inr h), h3, h4⟩
theorem lv_of {N : List Str} {sc : Scope} {i : Nat} {x : Str} (h : lvB N sc i x = true) : N[i]? = some x ∧ Loc sc x := by
  unfold lvB at h
  simp only [Bool.and_eq_true, Bool.or_eq_true, decide_eq_true_eq, beq_iff_eq] at h
  exact ⟨h.1, h.2⟩
theorem gv_of {X : Cx} {x : Str} (h : gvB X.env.scope x = true) : Gl X x ∧ (x == ("__debug__" : Str)) = false ∧ x ≠ "__name__" := by
  unfold gvB at h
  simp only [Bool.and_eq_true, beq_iff_eq, Bool.not_eq_true'] at h
  exact ⟨h.1.1, h.1.2, fun z => by rw [z] at h; exact absurd h.2 (by simp)⟩
def tS (i : Nat) : TE := fun σ H Q => sl σ i fun v => Q v H
theorem ps (i : Nat) {X : Cx} {x : Str} {pos : Pos} (h : nvB X.N X.env.scope i x = true) : PE X (.Name x pos) (tS i) :=
  ⟨fun pins s σ H Q I q => (pe_var (nv_of h).1 (nv_of h).2.1 (nv_of h).2.2.1 (nv_of h).2.2.2).run pins s σ H Q I (sl_get q)⟩
/-- the same within a comprehension's block -/
theorem psr (i : Nat) {X : Cx} {x : Str} {pos : Pos} (hN : X.N[i]? = some x := by rfl) (hv : Vis X.env.scope x := by first | exact Or.inl rfl | exact Or.inr (Or.inl rfl) | exact Or.inr (Or.inr rfl)) (hd : (x == ("__debug__" : Str)) = false := by decide)
    (hcd : (x == ("__classdict__" : Str)) = false := by decide) : PE X (.Name x pos) (tS i) :=
  ⟨fun pins s σ H Q I h => (pe_var hN hv hd hcd).run pins s σ H Q I (sl_get h)⟩
theorem pgn {i : Nat} {X : Cx} {x : Str} {pos : Pos} (hN : X.N.Nodup) (h : lvB X.N X.env.scope i x = true) (hf : X.fn x = true ∨ X.env.scope.names.lookup x = some .local := by first | exact .inl rfl | exact .inr rfl) : PG X (.Name x pos) (gName i) := pg_name hN (lv_of h).1 (lv_of h).2 hf
theorem pst {i : Nat} {X : Cx} {x : Str} {e : Expr} {te : TE} {pos pos' : Pos} (hN : X.N.Nodup) (h : lvB X.N X.env.scope i x = true) (he : PE X e te) (hs : swapsWith e (some (.Name x pos')) pos.line X.env = pure false := by rfl) (hf : X.fn x = true ∨ X.env.scope.names.lookup x = some .local := by first | exact .inl rfl | exact .inr rfl) :
    PS X (.Assign [.Name x pos'] e pos) (tAsg te (gName i)) := ps_set hN (lv_of h).1 (lv_of h).2 he hs hf
/-- a built-in function, a built-in type, called -/
theorem pcb {X : Cx} {x : Str} {p pos : Pos} {e : Expr} {es : List Expr} {t : TA} {id : String} {r : List V → Hp → VK → Prop} (hc : CallR X (.builtin id) r) (hg : gvB X.env.scope x = true) (hm : X.mg x = none) (hv : bootBuiltins x = some (.builtin id)) (ha : PA X (e :: es) t)
    (he : starEach (e :: es) X.env = (false, eval e X.env) :: starEach es X.env := by rfl) (hpl : (backTo pos (starEach es X.env)).any (·.1) = false := by rfl) : PE X (.Call (.Name x p) (e :: es) [] pos) (tCB r t) :=
  pe_callB hc (gv_of hg).1 hm hv ha (gv_of hg).2.2 (gv_of hg).2.1 he hpl
theorem pct {X : Cx} {x : Str} {p pos : Pos} {e : Expr} {es : List Expr} {t : TA} {T : String} {r : List V → Hp → VK → Prop} (hc : CallR X (.type T) r) (hg : gvB X.env.scope x = true) (hm : X.mg x = none) (hv : bootBuiltins x = some (.type T)) (ha : PA X (e :: es) t)
    (he : starEach (e :: es) X.env = (false, eval e X.env) :: starEach es X.env := by rfl) (hpl : (backTo pos (starEach es X.env)).any (·.1) = false := by rfl) : PE X (.Call (.Name x p) (e :: es) [] pos) (tCB r t) :=
  pe_callTy hc (gv_of hg).1 hm hv ha (gv_of hg).2.2 (gv_of hg).2.1 he hpl
theorem pct0 {X : Cx} {x : Str} {p pos : Pos} {T : String} {r : List V → Hp → VK → Prop} (hc : CallR X (.type T) r) (hg : gvB X.env.scope x = true) (hm : X.mg x = none) (hv : bootBuiltins x = some (.type T)) : PE X (.Call (.Name x p) [] [] pos) (tCB r tNil) :=
  pe_callTy0 hc (gv_of hg).1 hm hv (gv_of hg).2.2 (gv_of hg).2.1
/-- a def of the module, called -/
theorem pcl {Γ : Gm} {X : Cx} {CX : CXT} {k j : Nat} {x : Str} {sp : Sp} {dvs : List V} {E : XK} {p pos : Pos} {e : Expr} {es : List Expr} {t : TA} (c : Cl Γ CX k x sp dvs) (g : Good (Γ.at j) X) (hk : k ≤ j) (hg : gvB X.env.scope x = true) (hx : Passes CX X E) (ha : PA X (e :: es) t)
    (he : starEach (e :: es) X.env = (false, eval e X.env) :: starEach es X.env := by rfl) (hpl : (backTo pos (starEach es X.env)).any (·.1) = false := by rfl) :
    PE X (.Call (.Name x p) (e :: es) [] pos) (tCall sp dvs E t) := pe_cl c g hk (gv_of hg).1 hx ha (gv_of hg).2.1 he hpl
theorem pcl0 {Γ : Gm} {X : Cx} {CX : CXT} {k j : Nat} {x : Str} {sp : Sp} {dvs : List V} {E : XK} {p pos : Pos} (c : Cl Γ CX k x sp dvs) (g : Good (Γ.at j) X) (hk : k ≤ j) (hg : gvB X.env.scope x = true) (hx : Passes CX X E) :
    PE X (.Call (.Name x p) [] [] pos) (tCall sp dvs E tNil) := pe_cl0 c g hk (gv_of hg).1 hx (gv_of hg).2.1
def asB (x : V) (P : Bool → Prop) : Prop := match x with
  | .bl b => P b
  | _ => False
theorem asB_eq (x : V) (P : Bool → Prop) : asB x P = ∃ k, x = .bl k ∧ P k := by
  refine propext ⟨fun h => ?_, fun ⟨k, e, h⟩ => by subst e; exact h⟩
  cases x <;> first | exact ⟨_, rfl, h⟩ | exact h.elim
def asI (x : V) (P : Int → Prop) : Prop := match x with
  | .int i => P i
  | _ => False
theorem asI_eq (x : V) (P : Int → Prop) : asI x P = ∃ k, x = .int k ∧ P k := by
  refine propext ⟨fun h => ?_, fun ⟨k, e, h⟩ => by subst e; exact h⟩
  cases x <;> first | exact ⟨_, rfl, h⟩ | exact h.elim
def br (b : Bool) (A B : Prop) : Prop := match b with
  | true => A
  | false => B
theorem br_eq (b : Bool) (A B : Prop) : (if b = true then A else B) = br b A B := by cases b <;> simp [br]
theorem br_d {p : Prop} [Decidable p] {A B : Prop} (h1 : p → A) (h2 : ¬ p → B) : br (decide p) A B := by
  by_cases h : p
  · rw [decide_eq_true h]; exact h1 h
  · rw [decide_eq_false h]; exact h2 h
theorem br_b {b : Bool} {A B : Prop} (h1 : b = true → A) (h2 : b = false → B) : br b A B := by
  cases b
  · exact h2 rfl
  · exact h1 rfl
/-- truth -/
def tru (K : PySem.W.Frag) (x : V) (H : Hp) (P : Bool → Prop) : Prop := match x with
  | .bl b => P b
  | .non => P false
  | .int i => P (i != 0)
  | .str y => y.length ≤ sizeLine ∧ P ((y.length : Int) != 0)
  | .byt y => y.size ≤ sizeLine ∧ P ((y.size : Int) != 0)
  | .ref p => ∃ k, TruV K (.ref p) H k ∧ P k
  | _ => False
theorem tru_eq (K : PySem.W.Frag) (x : V) (H : Hp) (P : Bool → Prop) : tru K x H P = ∃ k, TruV K x H k ∧ P k := by
  refine propext ⟨fun h => ?_, fun ⟨k, e, h⟩ => ?_⟩
  · cases x <;> first | exact ⟨_, rfl, h⟩ | exact ⟨_, ⟨h.1, rfl⟩, h.2⟩ | exact h | exact h.elim
  · cases x <;> first | (cases e; exact h) | (obtain ⟨e1, e2⟩ := e; subst e2; exact ⟨e1, h⟩) | exact ⟨k, e, h⟩ | exact e.elim
section
variable {Γ : Gm} {X : Cx} {a b c e o : Expr} {es : List Expr} {ta tb tc te : TE} {pos p : Pos} {tt tA tB' : TT} {t u : TS} {x : Str} {tr : TA}

/-! ### operators by values -/
def oAdd (Γ : Gm) : V → V → Hp → VK → Prop
  | .int i, .int j, H, Q => Q (.int (i + j)) H
  | .str a, .str b, H, Q => a.length + b.length ≤ sizeLine ∧ Q (.str (a ++ b)) H
  | x, y, H, Q => WO Γ (binaryOp .Add) x y H Q
def oSub (Γ : Gm) : V → V → Hp → VK → Prop
  | .int i, .int j, H, Q => Q (.int (i - j)) H
  | x, y, H, Q => WO Γ (binaryOp .Sub) x y H Q
def oMul (Γ : Gm) : V → V → Hp → VK → Prop
  | .int i, .int j, H, Q => CMul i j ∧ Q (.int (i * j)) H
  | x, y, H, Q => WO Γ (binaryOp .Mult) x y H Q
def oDiv (Γ : Gm) : V → V → Hp → VK → Prop
  | .int i, .int j, H, Q => (0 < j ∧ j < 1073741824) ∧ Q (.int (i / j)) H
  | x, y, H, Q => WO Γ (binaryOp .FloorDiv) x y H Q
def oMod (Γ : Gm) : V → V → Hp → VK → Prop
  | .int i, .int j, H, Q => 0 < j ∧ Q (.int (i % j)) H
  | x, y, H, Q => WO Γ (binaryOp .Mod) x y H Q
def oPow (Γ : Gm) : V → V → Hp → VK → Prop
  | .int i, .int j, H, Q => CPow i j ∧ Q (.int (i ^ j.toNat)) H
  | x, y, H, Q => WO Γ (binaryOp .Pow) x y H Q
def oLt (Γ : Gm) : V → V → Hp → VK → Prop
  | .int i, .int j, H, Q => Q (.bl (decide (i < j))) H
  | x, y, H, Q => WO Γ (compareOp .Lt) x y H Q
def oLe (Γ : Gm) : V → V → Hp → VK → Prop
  | .int i, .int j, H, Q => Q (.bl (decide (i ≤ j))) H
  | x, y, H, Q => WO Γ (compareOp .LtE) x y H Q
def oGt (Γ : Gm) : V → V → Hp → VK → Prop
  | .int i, .int j, H, Q => Q (.bl (decide (j < i))) H
  | x, y, H, Q => WO Γ (compareOp .Gt) x y H Q
def oGe (Γ : Gm) : V → V → Hp → VK → Prop
  | .int i, .int j, H, Q => Q (.bl (decide (j ≤ i))) H
  | x, y, H, Q => WO Γ (compareOp .GtE) x y H Q
def oEq (Γ : Gm) : V → V → Hp → VK → Prop
  | .int i, .int j, H, Q => Q (.bl (decide (i = j))) H
  | .str i, .str j, H, Q => Q (.bl (decide (i = j))) H
  | .bl i, .bl j, H, Q => Q (.bl (decide (i = j))) H
  | .non, .non, H, Q => Q (.bl true) H
  | .non, .int _, H, Q => Q (.bl false) H
  | .int _, .non, H, Q => Q (.bl false) H
  | .non, .bl _, H, Q => Q (.bl false) H
  | .bl _, .non, H, Q => Q (.bl false) H
  | .non, .str _, H, Q => Q (.bl false) H
  | .str _, .non, H, Q => Q (.bl false) H
  | x, y, H, Q => WO Γ (compareOp .Eq) x y H Q
def oNe (Γ : Gm) : V → V → Hp → VK → Prop
  | .int i, .int j, H, Q => Q (.bl (!decide (i = j))) H
  | .str i, .str j, H, Q => Q (.bl (!decide (i = j))) H
  | .bl i, .bl j, H, Q => Q (.bl (!decide (i = j))) H
  | .non, .non, H, Q => Q (.bl false) H
  | .non, .int _, H, Q => Q (.bl true) H
  | .int _, .non, H, Q => Q (.bl true) H
  | .non, .bl _, H, Q => Q (.bl true) H
  | .bl _, .non, H, Q => Q (.bl true) H
  | .non, .str _, H, Q => Q (.bl true) H
  | .str _, .non, H, Q => Q (.bl true) H
  | x, y, H, Q => WO Γ (compareOp .NotEq) x y H Q
def isN (x : V) : Bool := match x with
  | .non => true
  | _ => false
theorem isN_eq (x : V) : decide (x = .non) = isN x := by cases x <;> rfl
def oIs (Γ : Gm) : V → V → Hp → VK → Prop
  | x, .non, H, Q => Q (.bl (isN x)) H
  | x, y, H, Q => WO Γ (compareOp .Is) x y H Q
def oIsNot (Γ : Gm) : V → V → Hp → VK → Prop
  | x, .non, H, Q => Q (.bl (!isN x)) H
  | x, y, H, Q => WO Γ (compareOp .IsNot) x y H Q
abbrev oIn (Γ : Gm) : R2 := WO Γ (compareOp .In)
abbrev oNotIn (Γ : Gm) : R2 := WO Γ (compareOp .NotIn)
abbrev oShr (Γ : Gm) : R2 := WO Γ (binaryOp .RShift)
abbrev oOr (Γ : Gm) : R2 := WO Γ (binaryOp .BitOr)
abbrev oAnd (Γ : Gm) : R2 := WO Γ (binaryOp .BitAnd)
abbrev oXor (Γ : Gm) : R2 := WO Γ (binaryOp .BitXor)
/-- from a reading by values to the weakest -/
theorem opr_of {f : Value → Value → Sem Value} {r : R2} (g : Good Γ X) (h : ∀ x y H Q, r x y H Q → WO Γ f x y H Q) : OpR X f r := fun pins s σ H x y v u Q I rx ry q => WO.ok g pins s σ H x y v u Q I rx ry (h x y H Q q)
theorem k_add (g : Good Γ X) : OpR X (binaryOp .Add) (oAdd Γ) := opr_of g fun x y H Q h => by
  cases x <;> cases y <;> first | exact h | exact wo_add h | exact ⟨_, fun _ _ => op_add_str, _, _, rfl, rfl, h.1, h.2⟩
theorem k_sub (g : Good Γ X) : OpR X (binaryOp .Sub) (oSub Γ) := opr_of g fun x y H Q h => by
  cases x <;> cases y <;> first | exact h | exact wo_sub h
theorem k_mul (g : Good Γ X) : OpR X (binaryOp .Mult) (oMul Γ) := opr_of g fun x y H Q h => by
  cases x <;> cases y <;> first | exact h | exact ⟨_, fun _ _ => op_mul, _, _, rfl, rfl, h.1, h.2⟩
theorem k_div (g : Good Γ X) : OpR X (binaryOp .FloorDiv) (oDiv Γ) := opr_of g fun x y H Q h => by
  cases x <;> cases y <;> first | exact h | exact ⟨_, fun _ _ => op_fdiv, _, _, rfl, rfl, h.1, h.2⟩
theorem k_mod (g : Good Γ X) : OpR X (binaryOp .Mod) (oMod Γ) := opr_of g fun x y H Q h => by
  cases x <;> cases y <;> first | exact h | exact wo_mod h.1 h.2
theorem k_pow (g : Good Γ X) : OpR X (binaryOp .Pow) (oPow Γ) := opr_of g fun x y H Q h => by
  cases x <;> cases y <;> first | exact h | exact ⟨_, fun _ _ => op_pow, _, _, rfl, rfl, h.1, h.2⟩
theorem k_lt (g : Good Γ X) : OpR X (compareOp .Lt) (oLt Γ) := opr_of g fun x y H Q h => by
  cases x <;> cases y <;> first | exact h | exact wo_lt h
theorem k_le (g : Good Γ X) : OpR X (compareOp .LtE) (oLe Γ) := opr_of g fun x y H Q h => by
  cases x <;> cases y <;> first | exact h | exact wo_le h
theorem k_gt (g : Good Γ X) : OpR X (compareOp .Gt) (oGt Γ) := opr_of g fun x y H Q h => by
  cases x <;> cases y <;> first | exact h | exact wo_gt h
theorem k_ge (g : Good Γ X) : OpR X (compareOp .GtE) (oGe Γ) := opr_of g fun x y H Q h => by
  cases x <;> cases y <;> first | exact h | exact wo_ge h
theorem k_eq (g : Good Γ X) : OpR X (compareOp .Eq) (oEq Γ) := opr_of g fun x y H Q h => by
  cases x <;> cases y <;> first | exact h | exact wo_eqI h | exact wo_eqS h | exact ⟨_, fun _ _ => op_eq, rfl, h⟩ | exact ⟨_, fun _ _ => op_eq, rfl, by
    rename_i i j
    have e : decide (V.bl i = V.bl j) = decide (i = j) := decide_eq_decide.mpr ⟨fun z => V.bl.inj z, fun z => by rw [z]⟩
    rw [e]; exact h⟩
theorem k_ne (g : Good Γ X) : OpR X (compareOp .NotEq) (oNe Γ) := opr_of g fun x y H Q h => by
  cases x <;> cases y <;> first | exact h | exact wo_neI h | exact wo_neS h | exact ⟨_, fun _ _ => op_ne, rfl, h⟩ | exact ⟨_, fun _ _ => op_ne, rfl, by
    rename_i i j
    have e : decide (V.bl i = V.bl j) = decide (i = j) := decide_eq_decide.mpr ⟨fun z => V.bl.inj z, fun z => by rw [z]⟩
    rw [e]; exact h⟩
theorem k_is (g : Good Γ X) : OpR X (compareOp .Is) (oIs Γ) := opr_of g fun x y H Q h => by
  cases y <;> first | exact h | exact wo_isN (by rw [isN_eq]; exact h)
theorem k_isnot (g : Good Γ X) : OpR X (compareOp .IsNot) (oIsNot Γ) := opr_of g fun x y H Q h => by
  cases y <;> first | exact h | exact wo_notN (by rw [isN_eq]; exact h)
def uNeg (Γ : Gm) : V → Hp → VK → Prop
  | .int i, H, Q => Q (.int (-i)) H
  | x, H, Q => WU Γ (unaryOp .USub) x H Q
theorem k_neg (g : Good Γ X) : UnR X (unaryOp .USub) (uNeg Γ) := fun pins s σ H x v Q I rx q => WU.ok g pins s σ H x v Q I rx (by cases x <;> first | exact q | exact wu_neg q)

/-! ### calls of built-ins by values -/
def cInt (Γ : Gm) : List V → Hp → VK → Prop
  | [.int i], H, Q => Q (.int i) H
  | [.bl b], H, Q => Q (.int (if b then 1 else 0)) H
  | xs, H, Q => WC Γ (.type "int") xs H Q
def cAbs (Γ : Gm) : List V → Hp → VK → Prop
  | [.int i], H, Q => Q (.int (if i < 0 then -i else i)) H
  | xs, H, Q => WC Γ (.builtin "abs") xs H Q
def cMin (Γ : Gm) : List V → Hp → VK → Prop
  | [.int i, .int j], H, Q => Q (.int (if j < i then j else i)) H
  | xs, H, Q => WC Γ (.builtin "min") xs H Q
def cMax (Γ : Gm) : List V → Hp → VK → Prop
  | [.int i, .int j], H, Q => Q (.int (if j > i then j else i)) H
  | xs, H, Q => WC Γ (.builtin "max") xs H Q
def cLen (Γ : Gm) : List V → Hp → VK → Prop
  | [.str z], H, Q => z.length ≤ sizeLine ∧ Q (.int z.length) H
  | xs, H, Q => WC Γ (.builtin "len") xs H Q
theorem callr_of {f : Value} {r : List V → Hp → VK → Prop} (g : Good Γ X) (h : ∀ xs H Q, r xs H Q → WC Γ f xs H Q) : CallR X f r := fun pins s σ H xs us Q I rx q => WC.ok g pins s σ H xs us Q I rx (h xs H Q q)
theorem k_int (g : Good Γ X) : CallR X (.type "int") (cInt Γ) := callr_of g fun xs H Q h => by
  rcases xs with _ | ⟨x, _ | ⟨y, r⟩⟩
  · exact h
  · cases x <;> first | exact h | exact wc_int h | exact wc_intB h
  · cases x <;> exact h
theorem k_abs (g : Good Γ X) : CallR X (.builtin "abs") (cAbs Γ) := callr_of g fun xs H Q h => by
  rcases xs with _ | ⟨x, _ | ⟨y, r⟩⟩
  · exact h
  · cases x <;> first | exact h | exact wc_abs h
  · cases x <;> exact h
theorem clenS (g : Good Γ X) : CallR X (.builtin "len") (fun xs H Q => ∃ x n, xs = [x] ∧ LenV Γ.K x H n ∧ Q (.int n) H) := by rw [← g.K]; exact call_len
theorem k_len (g : Good Γ X) : CallR X (.builtin "len") (cLen Γ) := callr_of g fun xs H Q h => by
  rcases xs with _ | ⟨x, _ | ⟨y, r⟩⟩
  · exact h
  · cases x <;> first | exact h | exact ⟨_, fun _ g => clenS g, _, _, rfl, ⟨h.1, rfl⟩, h.2⟩
  · cases x <;> exact h
theorem k_min (g : Good Γ X) : CallR X (.builtin "min") (cMin Γ) := callr_of g fun xs H Q h => by
  rcases xs with _ | ⟨x, _ | ⟨y, _ | ⟨z, r⟩⟩⟩
  · exact h
  · cases x <;> exact h
  · cases x <;> cases y <;> first | exact h | exact wc_min2 h
  · cases x <;> cases y <;> exact h
theorem k_max (g : Good Γ X) : CallR X (.builtin "max") (cMax Γ) := callr_of g fun xs H Q h => by
  rcases xs with _ | ⟨x, _ | ⟨y, _ | ⟨z, r⟩⟩⟩
  · exact h
  · cases x <;> exact h
  · cases x <;> cases y <;> first | exact h | exact wc_max2 h
  · cases x <;> cases y <;> exact h

/-! ### tests, branches -/
def tT (t : TE) : TT := fun σ H Q => t σ H fun x H' => asB x fun k => Q k H'
theorem tT_eq (t : TE) : tT t = tTest t := by
  funext σ H Q
  show t σ H (fun x H' => asB x fun k => Q k H') = t σ H fun x H' => ∃ k, x = .bl k ∧ Q k H'
  congr 1
  funext x H'
  exact asB_eq x _
theorem pt_cm {op : CmpOp} {r : R2} (ho : OpR X (compareOp op) r) (ha : PE X a ta) (hb : PE X b tb) (hm : behindInMarks op b = false) : PT X (.Compare a [op] [b] pos) (tT (tOp r ta tb)) := by
  rw [tT_eq]; exact pt_cmpR ho ha hb hm
def tCh (r r' : R2) (ta tb tc : TE) : TE := fun σ H Q => ta σ H fun x H1 => tb σ H1 fun y H2 => r x y H2 fun z H3 => asB z fun k => br k (tc σ H3 fun w' H4 => r' y w' H4 Q) (Q (.bl false) H3)
theorem tCh_eq (r r' : R2) (ta tb tc : TE) : tCh r r' ta tb tc = tChain r r' ta tb tc := by
  funext σ H Q
  unfold tCh tChain
  congr 1; funext x H1
  congr 1; funext y H2
  congr 1; funext z H3
  rw [asB_eq]
  congr 1; funext k
  rw [br_eq]
theorem pe_ch {op op' : CmpOp} {r r' : R2} (ho : OpR X (compareOp op) r) (ho' : OpR X (compareOp op') r') (ha : PE X a ta) (hb : PE X b tb) (hc : PE X c tc)
    (hm : lastMarks [op, op'] [b, c] = false := by with_unfolding_all rfl) : PE X (.Compare a [op, op'] [b, c] pos) (tCh r r' ta tb tc) := by
  rw [tCh_eq]; exact pe_chain ho ho' ha hb hc hm
theorem pt_ch {op op' : CmpOp} {r r' : R2} (ho : OpR X (compareOp op) r) (ho' : OpR X (compareOp op') r') (ha : PE X a ta) (hb : PE X b tb) (hc : PE X c tc)
    (hm : lastMarks [op, op'] [b, c] = false := by with_unfolding_all rfl) : PT X (.Compare a [op, op'] [b, c] pos) (tT (tCh r r' ta tb tc)) := by
  rw [tT_eq, tCh_eq]; exact pt_chain ho ho' ha hb hc hm
def tIfB (t : TT) (ta tb : TE) : TE := fun σ H Q => t σ H fun c H1 => br c (ta σ H1 Q) (tb σ H1 Q)
theorem tIfB_eq (t : TT) (ta tb : TE) : tIfB t ta tb = tIf t ta tb := by
  funext σ H Q
  unfold tIfB tIf
  congr 1; funext c H1
  exact (br_eq _ _ _).symm
theorem pe_ifB (hc : PT X c tA) (ha : PE X a ta) (hb : PE X b tb) : PE X (.IfExp c a b pos) (tIfB tA ta tb) := by rw [tIfB_eq]; exact pe_ifExp hc ha hb
def tIfSB (c : TT) (t u : TS) : TS := fun D σ H => c σ H fun b H1 => br b (t D σ H1) (u D σ H1)
theorem tIfSB_eq (c : TT) (t u : TS) : tIfSB c t u = tIfS c t u := by
  funext D σ H
  unfold tIfSB tIfS
  congr 1; funext c H1
  exact (br_eq _ _ _).symm
theorem ps_ifB {a b : List Stmt} (hc : PT X c tt) (ha : PSs X a t) (hb : PSs X b u) : PS X (.If c a b pos) (tIfSB tt t u) := by rw [tIfSB_eq]; exact ps_if hc ha hb
def tAndB (t u : TT) : TT := fun σ H Q => t σ H fun c H1 => br c (u σ H1 Q) (Q false H1)
def tOrB (t u : TT) : TT := fun σ H Q => t σ H fun c H1 => br c (Q true H1) (u σ H1 Q)
theorem tAndB_eq (t u : TT) : tAndB t u = tAnd t u := by
  funext σ H Q
  unfold tAndB tAnd
  congr 1; funext c H1
  exact (br_eq _ _ _).symm
theorem tOrB_eq (t u : TT) : tOrB t u = tOr t u := by
  funext σ H Q
  unfold tOrB tOr
  congr 1; funext c H1
  exact (br_eq _ _ _).symm
theorem pw_andB {rest : List Expr} (ha : PT X a tA) (hb : PW X (.BoolOp .And (b :: rest) pos) tB') : PW X (.BoolOp .And (a :: b :: rest) pos) (tAndB tA tB') := by rw [tAndB_eq]; exact pw_and ha hb
theorem pw_orB {rest : List Expr} (ha : PT X a tA) (hb : PW X (.BoolOp .Or (b :: rest) pos) tB') : PW X (.BoolOp .Or (a :: b :: rest) pos) (tOrB tA tB') := by rw [tOrB_eq]; exact pw_or ha hb
/-- truth of any value as a test -/
def tTr (Γ : Gm) (ta : TE) : TT := fun σ H Q => ta σ H fun x H' => tru Γ.K x H' fun k => Q k H'
theorem tTr_eq (g : Good Γ X) (ta : TE) : tTr Γ ta = fun σ H Q => ta σ H fun x H' => ∃ k, TruV X.K x H' k ∧ Q k H' := by
  rw [g.K]
  funext σ H Q
  unfold tTr
  congr 1; funext x H'
  exact tru_eq _ _ _ _
theorem pt_tr (g : Good Γ X) (ha : PE X a ta) (he : ∀ whole, isTrue a X.env whole = (do let v ← whole; standAt a.pos; holding [v] (truthy v)) := by intro _; rfl) : PT X a (tTr Γ ta) := by
  rw [tTr_eq g]; exact pt_truth ha he
def tOrB2 (Γ : Gm) (ta tb : TE) : TE := fun σ H Q => ta σ H fun x H1 => tru Γ.K x H1 fun k => br k (Q x H1) (tb σ H1 Q)
def tAndB2 (Γ : Gm) (ta tb : TE) : TE := fun σ H Q => ta σ H fun x H1 => tru Γ.K x H1 fun k => br k (tb σ H1 Q) (Q x H1)
def tNotB (Γ : Gm) (ta : TE) : TE := fun σ H Q => ta σ H fun x H1 => tru Γ.K x H1 fun k => Q (.bl (!k)) H1
theorem pe_or2 {rest : List Expr} (g : Good Γ X) (ha : PE X a ta) (hb : PE X (.BoolOp .Or (b :: rest) pos) tb) : PE X (.BoolOp .Or (a :: b :: rest) pos) (tOrB2 Γ ta tb) := by
  have e : tOrB2 Γ ta tb = tOrT X.K ta tb := by
    rw [g.K]
    funext σ H Q
    unfold tOrB2 tOrT
    congr 1; funext x H'
    rw [tru_eq]
    congr 1; funext k
    rw [br_eq]
  rw [e]; exact pe_orT ha hb
theorem pe_and2 {rest : List Expr} (g : Good Γ X) (ha : PE X a ta) (hb : PE X (.BoolOp .And (b :: rest) pos) tb) : PE X (.BoolOp .And (a :: b :: rest) pos) (tAndB2 Γ ta tb) := by
  have e : tAndB2 Γ ta tb = tAndT X.K ta tb := by
    rw [g.K]
    funext σ H Q
    unfold tAndB2 tAndT
    congr 1; funext x H'
    rw [tru_eq]
    congr 1; funext k
    rw [br_eq]
  rw [e]; exact pe_andT ha hb
theorem pe_not2 (g : Good Γ X) (ha : PE X a ta) : PE X (.UnaryOp .Not a pos) (tNotB Γ ta) := by
  have e : tNotB Γ ta = tNotT X.K ta := by
    rw [g.K]
    funext σ H Q
    unfold tNotB tNotT
    congr 1; funext x H'
    exact tru_eq _ _ _ _
  rw [e]; exact pe_notT ha

/-! ### several targets, slices' parts, methods of built-in types -/
def two (vs : List V) (P : V → V → Prop) : Prop := match vs with
  | [v, w] => P v w
  | _ => False
def three (vs : List V) (P : V → V → V → Prop) : Prop := match vs with
  | [v, w, z] => P v w z
  | _ => False
theorem two_eq (vs : List V) (P : V → V → Prop) : two vs P = ∃ v w, vs = [v, w] ∧ P v w := by
  refine propext ⟨fun h => ?_, fun ⟨v, w, e, h⟩ => by subst e; exact h⟩
  rcases vs with _ | ⟨v, _ | ⟨w, _ | ⟨z, r⟩⟩⟩ <;> first | exact ⟨_, _, rfl, h⟩ | exact h.elim
theorem three_eq (vs : List V) (P : V → V → V → Prop) : three vs P = ∃ v w z, vs = [v, w, z] ∧ P v w z := by
  refine propext ⟨fun h => ?_, fun ⟨v, w, z, e, h⟩ => by subst e; exact h⟩
  rcases vs with _ | ⟨v, _ | ⟨w, _ | ⟨z, _ | ⟨y, r⟩⟩⟩⟩ <;> first | exact ⟨_, _, _, rfl, h⟩ | exact h.elim
def tP2 (i j : Nat) (ta : TA) : TS := fun D σ H => ta σ H fun vs H1 => two vs fun v w => D.nx ((σ.set i (some v)).set j (some w)) H1
def tP3 (i j l : Nat) (ta : TA) : TS := fun D σ H => ta σ H fun vs H1 => three vs fun u v w => D.nx (((σ.set i (some u)).set j (some v)).set l (some w)) H1
theorem tP2_eq (i j : Nat) (ta : TA) : tP2 i j ta = tPar i j ta := by
  funext D σ H
  unfold tP2 tPar
  congr 1; funext vs H1
  exact two_eq _ _
theorem tP3_eq (i j l : Nat) (ta : TA) : tP3 i j l ta = tPar3 i j l ta := by
  funext D σ H
  unfold tP3 tPar3
  congr 1; funext vs H1
  exact three_eq _ _
theorem ps_p2 {i j : Nat} {x y : Str} {a b : Expr} {ta : TA} {px py pt : Pos} {kt k2 pt2} (hc : X.calm = true) (hN : X.N.Nodup) (hi : X.N[i]? = some x) (hj : X.N[j]? = some y) (hij : i ≠ j)
    (hx : X.env.scope.names.lookup x = some .local) (hy : X.env.scope.names.lookup y = some .local) (ha : PA X [a, b] ta)
    (hw : swappedStores [.Tuple [.Name x px, .Name y py] kt pt] (.Tuple [a, b] k2 pt2) X.env = pure (some [x, y]))
    (hs : swapsWithSole [.Tuple [.Name x px, .Name y py] kt pt] (.Tuple [a, b] k2 pt2) pos.line X.env = pure false := by rfl) :
    PS X (.Assign [.Tuple [.Name x px, .Name y py] kt pt] (.Tuple [a, b] k2 pt2) pos) (tP2 i j ta) := by rw [tP2_eq]; exact ps_par hc hN hi hj hij hx hy ha hw hs
theorem ps_p3 {i j l : Nat} {x y z : Str} {a b c : Expr} {ta : TA} {px py pz pt pos : Pos} {kt k2 pt2} (hc : X.calm = true) (hN : X.N.Nodup) (hi : X.N[i]? = some x) (hj : X.N[j]? = some y) (hl : X.N[l]? = some z) (hij : i ≠ j) (hil : i ≠ l) (hjl : j ≠ l)
    (hx : X.env.scope.names.lookup x = some .local) (hy : X.env.scope.names.lookup y = some .local) (hz : X.env.scope.names.lookup z = some .local) (ha : PA X [a, b, c] ta)
    (hw : swappedStores [.Tuple [.Name x px, .Name y py, .Name z pz] kt pt] (.Tuple [a, b, c] k2 pt2) X.env = pure (some [x, y, z]))
    (hs : swapsWithSole [.Tuple [.Name x px, .Name y py, .Name z pz] kt pt] (.Tuple [a, b, c] k2 pt2) pos.line X.env = pure false := by rfl) :
    PS X (.Assign [.Tuple [.Name x px, .Name y py, .Name z pz] kt pt] (.Tuple [a, b, c] k2 pt2) pos) (tP3 i j l ta) := by rw [tP3_eq]; exact ps_par3 hc hN hi hj hl hij hil hjl hx hy hz ha hw hs
def tPt (t : TE) : TO := fun σ H Q => t σ H fun x H1 => asI x fun i => Q (some i) H1
theorem tPt_eq (t : TE) : tPt t = tPart t := by
  funext σ H Q
  unfold tPt tPart
  congr 1; funext x H1
  exact asI_eq _ _
theorem po_pt (h : PE X e te) : PO X (some e) (tPt te) := by rw [tPt_eq]; exact po_some h
theorem pe_bmK {name : Str} {apos cpos : Pos} {T id : String} {r : V → List V → Hp → VK → Prop} {to : TE} {t : TA} (g : Good Γ X) (pa : PlainAttrs T) (slot : Slot T name id) (hty : typeOf (.builtin id) = pure (.type "method_descriptor")) (hm : MtR X id r) (ho : PE X o to) (ha : PA X (e :: es) t)
    (hbase : attributeBase o name X.env (eval o X.env) = eval o X.env := by rfl)
    (hfew : ((backTo cpos (starEach (e :: es) X.env)).all (fun x => !x.1) && (backToKw cpos (keywordEach [] X.env)).all (fun x => x.1.isSome)
      && decide ((e :: es).length + ([] : List Keyword).length + (if ([] : List Keyword).isEmpty then 0 else 1) < 30)) = true := by rfl)
    (hline : (apos.endLine == cpos.line) = true := by rfl) (hs : starEach (e :: es) X.env = (false, eval e X.env) :: starEach es X.env := by rfl) (hplain : (backTo cpos (starEach es X.env)).any (·.1) = false := by rfl) :
    PE X (.Call (.Attribute o name apos) (e :: es) [] cpos) (tBM Γ.K T r to t) := by rw [← g.K]; exact pe_bm pa slot hty hm ho ha hbase hfew hline hs hplain
theorem pe_bmK0 {name : Str} {apos cpos : Pos} {T id : String} {r : V → List V → Hp → VK → Prop} {to : TE} (g : Good Γ X) (pa : PlainAttrs T) (slot : Slot T name id) (hty : typeOf (.builtin id) = pure (.type "method_descriptor")) (hm : MtR X id r) (ho : PE X o to)
    (hbase : attributeBase o name X.env (eval o X.env) = eval o X.env := by rfl) (hline : (apos.endLine == cpos.line) = true := by rfl) : PE X (.Call (.Attribute o name apos) [] [] cpos) (tBM0 Γ.K T r to) := by
  rw [← g.K]; exact pe_bm0 pa slot hty hm ho hbase hline
def rJ (K : PySem.W.Frag) : V → List V → Hp → VK → Prop := fun x xs H Q => ∃ a p, ∃ ys : List Str, x = .str a ∧ xs = [.ref p] ∧ (SqL K H p (ys.map V.str) ∨ SqT K H p (ys.map V.str)) ∧ (ys.map (·.length)).sum + ys.length * a.length ≤ 16777216 ∧ Q (.str (Txt.join a ys)) H
theorem pe_jn {apos pos : Pos} {to : TE} (g : Good Γ X) (ho : PE X o to) (he : PE X e te) (hs : starEach [e] X.env = [(false, eval e X.env)] := by rfl) (hbase : attributeBase o "join" X.env (eval o X.env) = eval o X.env := by rfl) (hline : (apos.endLine == pos.line) = true := by rfl) :
    PE X (.Call (.Attribute o "join" apos) [e] [] pos) (tM1 (rJ Γ.K) to te) := by rw [← g.K]; exact pe_join ho he hs hbase hline
end

/-! ### what is walked, by the written part's own name -/
section
variable {Γ : Gm} {X : Cx} {tg e : Expr} {te : TE} {ta : TA}
theorem pi_l (g : Good Γ X) (h : PE X e te) : PI X tg e (iList Γ.K te) := by rw [← g.K]; exact pi_list h
theorem pi_t (g : Good Γ X) (h : PE X e te) : PI X tg e (iTup Γ.K te) := by rw [← g.K]; exact pi_tup h
theorem pi_en {p pos tpos : Pos} {elts : List Expr} {kk : Nat} (g : Good Γ X) (hg : gvB X.env.scope "enumerate" = true) (hm : X.mg "enumerate" = none) (ha : PA X [e] ta) (hs : starEach [e] X.env = [(false, eval e X.env)] := by rfl) :
    PI X (.Tuple elts kk tpos) (.Call (.Name "enumerate" p) [e] [] pos) (iEnum Γ.K ta) := by rw [← g.K]; exact pi_enum (gv_of hg).1 hm ha hs
theorem pi_r1 {a : Expr} {p pos : Pos} (hg : gvB X.env.scope "range" = true) (hm : X.mg "range" = none) (ha : PA X [a] ta) (hs : starEach [a] X.env = [(false, eval a X.env)] := by rfl) : PI X tg (.Call (.Name "range" p) [a] [] pos) (iRng1 ta) := pi_range1 (gv_of hg).1 hm ha hs
theorem pi_r2 {a b : Expr} {p pos : Pos} (hg : gvB X.env.scope "range" = true) (hm : X.mg "range" = none) (ha : PA X [a, b] ta) (hs : starEach [a, b] X.env = [(false, eval a X.env), (false, eval b X.env)] := by rfl) (hs2 : starEach [b] X.env = [(false, eval b X.env)] := by rfl) :
    PI X tg (.Call (.Name "range" p) [a, b] [] pos) (iRng2 ta) := pi_range2 (gv_of hg).1 hm ha hs hs2
theorem pg_tK {es : List Expr} {k : Nat} {t : TGs} (g : Good Γ X) (n : Nat) (hc : X.calm = true) (h : PGs X es t) (hn : (assignEach es X.env).length = n := by rfl) (hst : (assignEach es X.env).findIdx? (·.1) = none := by rfl) {pos : Pos} : PG X (.Tuple es k pos) (gTup Γ.K n t) := by
  rw [← g.K]; exact pg_tup hc h hn hst
end

/-! ### several targets, by computation -/
def gN : TGs := fun vs σ H Q => match vs with
  | [] => Q σ H
  | _ => False
def gC (t : TG) (u : TGs) : TGs := fun vs σ H Q => match vs with
  | v :: r => t v σ H fun σ' H' => u r σ' H' Q
  | [] => False
theorem gN_eq : gN = gNil := by
  funext vs σ H Q
  refine propext ⟨fun h => ?_, fun ⟨e, h⟩ => by subst e; exact h⟩
  cases vs
  · exact ⟨rfl, h⟩
  · exact h.elim
theorem gC_eq (t : TG) (u : TGs) : gC t u = gCons t u := by
  funext vs σ H Q
  refine propext ⟨fun h => ?_, fun ⟨v, r, e, h⟩ => by subst e; exact h⟩
  cases vs
  · exact h.elim
  · exact ⟨_, _, rfl, h⟩
theorem pgs_0 {X : Cx} : PGs X [] gN := by rw [gN_eq]; exact pgs_nil
theorem pgs_c {X : Cx} {e : Expr} {es : List Expr} {t : TG} {u : TGs} (h1 : PG X e t) (h2 : PGs X es u)
    (hs : (assignEach (e :: es) X.env).map (·.2) = assign e X.env :: (assignEach es X.env).map (·.2) := by rfl) : PGs X (e :: es) (gC t u) := by rw [gC_eq]; exact pgs_cons h1 h2 hs
theorem gt_of {K : PySem.W.Frag} {n : Nat} {t : TGs} {T : Addr} {xs : List V} {σ : L2.St} {H : Hp} {Q : L2.St → Hp → Prop} (m : SqT K H T xs) (hn : xs.length = n) (h : t xs σ H Q) : gTup K n t (.ref T) σ H Q := ⟨T, xs, rfl, m, hn, h⟩

/-! ### what reduces -/
theorem gN_1 {σ : L2.St} {H : Hp} {Q : L2.St → Hp → Prop} : gN [] σ H Q = Q σ H := rfl
theorem gC_1 {t : TG} {u : TGs} {v : V} {r : List V} {σ : L2.St} {H : Hp} {Q : L2.St → Hp → Prop} : gC t u (v :: r) σ H Q = t v σ H fun σ' H' => u r σ' H' Q := rfl
theorem oAdd_1 {Γ : Gm} {H : Hp} {Q : VK} {i : Int} {j : Int} : oAdd Γ (.int i) (.int j) H Q = (Q (.int (i + j)) H) := rfl
theorem oAdd_2 {Γ : Gm} {H : Hp} {Q : VK} {a : Str} {b : Str} : oAdd Γ (.str a) (.str b) H Q = (a.length + b.length ≤ sizeLine ∧ Q (.str (a ++ b)) H) := rfl
theorem oSub_1 {Γ : Gm} {H : Hp} {Q : VK} {i : Int} {j : Int} : oSub Γ (.int i) (.int j) H Q = (Q (.int (i - j)) H) := rfl
theorem oMul_1 {Γ : Gm} {H : Hp} {Q : VK} {i : Int} {j : Int} : oMul Γ (.int i) (.int j) H Q = (CMul i j ∧ Q (.int (i * j)) H) := rfl
theorem oDiv_1 {Γ : Gm} {H : Hp} {Q : VK} {i : Int} {j : Int} : oDiv Γ (.int i) (.int j) H Q = ((0 < j ∧ j < 1073741824) ∧ Q (.int (i / j)) H) := rfl
theorem oMod_1 {Γ : Gm} {H : Hp} {Q : VK} {i : Int} {j : Int} : oMod Γ (.int i) (.int j) H Q = (0 < j ∧ Q (.int (i % j)) H) := rfl
theorem oPow_1 {Γ : Gm} {H : Hp} {Q : VK} {i : Int} {j : Int} : oPow Γ (.int i) (.int j) H Q = (CPow i j ∧ Q (.int (i ^ j.toNat)) H) := rfl
theorem oLt_1 {Γ : Gm} {H : Hp} {Q : VK} {i : Int} {j : Int} : oLt Γ (.int i) (.int j) H Q = (Q (.bl (decide (i < j))) H) := rfl
theorem oLe_1 {Γ : Gm} {H : Hp} {Q : VK} {i : Int} {j : Int} : oLe Γ (.int i) (.int j) H Q = (Q (.bl (decide (i ≤ j))) H) := rfl
theorem oGt_1 {Γ : Gm} {H : Hp} {Q : VK} {i : Int} {j : Int} : oGt Γ (.int i) (.int j) H Q = (Q (.bl (decide (j < i))) H) := rfl
theorem oGe_1 {Γ : Gm} {H : Hp} {Q : VK} {i : Int} {j : Int} : oGe Γ (.int i) (.int j) H Q = (Q (.bl (decide (j ≤ i))) H) := rfl
theorem oEq_1 {Γ : Gm} {H : Hp} {Q : VK} {i : Int} {j : Int} : oEq Γ (.int i) (.int j) H Q = (Q (.bl (decide (i = j))) H) := rfl
theorem oEq_2 {Γ : Gm} {H : Hp} {Q : VK} {i : Str} {j : Str} : oEq Γ (.str i) (.str j) H Q = (Q (.bl (decide (i = j))) H) := rfl
theorem oEq_3 {Γ : Gm} {H : Hp} {Q : VK} {i : Bool} {j : Bool} : oEq Γ (.bl i) (.bl j) H Q = (Q (.bl (decide (i = j))) H) := rfl
theorem oEq_4 {Γ : Gm} {H : Hp} {Q : VK} : oEq Γ .non .non H Q = (Q (.bl true) H) := rfl
theorem oEq_5 {Γ : Gm} {H : Hp} {Q : VK} {z1 : Int} : oEq Γ .non (.int z1) H Q = (Q (.bl false) H) := rfl
theorem oEq_6 {Γ : Gm} {H : Hp} {Q : VK} {z1 : Int} : oEq Γ (.int z1) .non H Q = (Q (.bl false) H) := rfl
theorem oEq_7 {Γ : Gm} {H : Hp} {Q : VK} {z1 : Bool} : oEq Γ .non (.bl z1) H Q = (Q (.bl false) H) := rfl
theorem oEq_8 {Γ : Gm} {H : Hp} {Q : VK} {z1 : Bool} : oEq Γ (.bl z1) .non H Q = (Q (.bl false) H) := rfl
theorem oEq_9 {Γ : Gm} {H : Hp} {Q : VK} {z1 : Str} : oEq Γ .non (.str z1) H Q = (Q (.bl false) H) := rfl
theorem oEq_10 {Γ : Gm} {H : Hp} {Q : VK} {z1 : Str} : oEq Γ (.str z1) .non H Q = (Q (.bl false) H) := rfl
theorem oNe_1 {Γ : Gm} {H : Hp} {Q : VK} {i : Int} {j : Int} : oNe Γ (.int i) (.int j) H Q = (Q (.bl (!decide (i = j))) H) := rfl
theorem oNe_2 {Γ : Gm} {H : Hp} {Q : VK} {i : Str} {j : Str} : oNe Γ (.str i) (.str j) H Q = (Q (.bl (!decide (i = j))) H) := rfl
theorem oNe_3 {Γ : Gm} {H : Hp} {Q : VK} {i : Bool} {j : Bool} : oNe Γ (.bl i) (.bl j) H Q = (Q (.bl (!decide (i = j))) H) := rfl
theorem oNe_4 {Γ : Gm} {H : Hp} {Q : VK} : oNe Γ .non .non H Q = (Q (.bl false) H) := rfl
theorem oNe_5 {Γ : Gm} {H : Hp} {Q : VK} {z1 : Int} : oNe Γ .non (.int z1) H Q = (Q (.bl true) H) := rfl
theorem oNe_6 {Γ : Gm} {H : Hp} {Q : VK} {z1 : Int} : oNe Γ (.int z1) .non H Q = (Q (.bl true) H) := rfl
theorem oNe_7 {Γ : Gm} {H : Hp} {Q : VK} {z1 : Bool} : oNe Γ .non (.bl z1) H Q = (Q (.bl true) H) := rfl
theorem oNe_8 {Γ : Gm} {H : Hp} {Q : VK} {z1 : Bool} : oNe Γ (.bl z1) .non H Q = (Q (.bl true) H) := rfl
theorem oNe_9 {Γ : Gm} {H : Hp} {Q : VK} {z1 : Str} : oNe Γ .non (.str z1) H Q = (Q (.bl true) H) := rfl
theorem oNe_10 {Γ : Gm} {H : Hp} {Q : VK} {z1 : Str} : oNe Γ (.str z1) .non H Q = (Q (.bl true) H) := rfl
theorem oIs_1 {Γ : Gm} {H : Hp} {Q : VK} {x : V} : oIs Γ x .non H Q = (Q (.bl (isN x)) H) := rfl
theorem oIsNot_1 {Γ : Gm} {H : Hp} {Q : VK} {x : V} : oIsNot Γ x .non H Q = (Q (.bl (!isN x)) H) := rfl
theorem uNeg_1 {Γ : Gm} {H : Hp} {Q : VK} {i : Int} : uNeg Γ (.int i) H Q = (Q (.int (-i)) H) := rfl
theorem cInt_1 {Γ : Gm} {H : Hp} {Q : VK} {i : Int} : cInt Γ [.int i] H Q = (Q (.int i) H) := rfl
theorem cInt_2 {Γ : Gm} {H : Hp} {Q : VK} {b : Bool} : cInt Γ [.bl b] H Q = (Q (.int (if b then 1 else 0)) H) := rfl
theorem cAbs_1 {Γ : Gm} {H : Hp} {Q : VK} {i : Int} : cAbs Γ [.int i] H Q = (Q (.int (if i < 0 then -i else i)) H) := rfl
theorem cMin_1 {Γ : Gm} {H : Hp} {Q : VK} {i : Int} {j : Int} : cMin Γ [.int i, .int j] H Q = (Q (.int (if j < i then j else i)) H) := rfl
theorem cMax_1 {Γ : Gm} {H : Hp} {Q : VK} {i : Int} {j : Int} : cMax Γ [.int i, .int j] H Q = (Q (.int (if j > i then j else i)) H) := rfl
theorem cLen_1 {Γ : Gm} {H : Hp} {Q : VK} {z : Str} : cLen Γ [.str z] H Q = (z.length ≤ sizeLine ∧ Q (.int z.length) H) := rfl
theorem sl_0 {v : V} {r : L2.St} {k : V → Prop} : sl (some v :: r) 0 k = k v := rfl
theorem sl_s {o : Option V} {r : L2.St} {n : Nat} {k : V → Prop} : sl (o :: r) (n + 1) k = sl r n k := rfl
theorem asB_1 {b : Bool} {P : Bool → Prop} : asB (.bl b) P = P b := rfl
theorem asI_1 {b : Int} {P : Int → Prop} : asI (.int b) P = P b := rfl
theorem br_1 {A B : Prop} : br true A B = A := rfl
theorem br_2 {A B : Prop} : br false A B = B := rfl
theorem two_1 {v w : V} {P : V → V → Prop} : two [v, w] P = P v w := rfl
theorem three_1 {u v w : V} {P : V → V → V → Prop} : three [u, v, w] P = P u v w := rfl
theorem tru_1 {K : PySem.W.Frag} {b : Bool} {H : Hp} {P : Bool → Prop} : tru K (.bl b) H P = P b := rfl
theorem tru_2 {K : PySem.W.Frag} {H : Hp} {P : Bool → Prop} : tru K .non H P = P false := rfl
theorem tru_3 {K : PySem.W.Frag} {i : Int} {H : Hp} {P : Bool → Prop} : tru K (.int i) H P = P (i != 0) := rfl
theorem tru_4 {K : PySem.W.Frag} {y : Str} {H : Hp} {P : Bool → Prop} : tru K (.str y) H P = (y.length ≤ sizeLine ∧ P ((y.length : Int) != 0)) := rfl
theorem nb_1 : (!true) = false := rfl
theorem nb_2 : (!false) = true := rfl
theorem isN_1 : isN (.non) = true := rfl
theorem isN_2 {i : Int} : isN (.int i) = false := rfl
theorem isN_3 {i : Str} : isN (.str i) = false := rfl
theorem isN_4 {i : Bool} : isN (.bl i) = false := rfl
theorem isN_5 {i : Addr} : isN (.ref i) = false := rfl
/-! ### the start of a body -/
theorem st_start {t : TS} {D : Ends} {σ : L2.St} {H : Hp} {N : List Str} {vs : List V} (e : L2.start N vs = σ) (h : t D σ H) : t D (L2.start N vs) H := by rw [e]; exact h
end G
namespace G
open PySem PySem.Spec PyProof.Rows L2

/-! ### what is known of the heap: facts that stay, cells that are ours, what stood at the entry -/
/-- never changed once it is made (MC: the classes whose instances change) -/
def Imm (MC : Addr → Prop) : HO → Prop
  | .tup _ => True
  | .frz _ _ => True
  | .ins C _ _ => ¬ MC C
  | _ => False
/-- all that was tracked but the cells of S is as it was -/
def Fr (S : List Addr) (H H' : Hp) : Prop := ∀ a o, a ∉ S → H a = some o → H' a = some o
theorem Fr.refl {S : List Addr} {H : Hp} : Fr S H H := fun _ _ _ h => h
theorem Fr.trans {S : List Addr} {H H1 H2 : Hp} (x : Fr S H H1) (y : Fr S H1 H2) : Fr S H H2 := fun a o n h => y a o n (x a o n h)
theorem Fr.same {H H' : Hp} (x : Fr [] H H') : Same H H' := fun a o h => x a o (List.not_mem_nil) h
theorem Fr.of {S : List Addr} {H H' : Hp} (x : Same H H') : Fr S H H' := fun a o _ h => x a o h
theorem Same.mk {H : Hp} {p : Addr} {o : HO} (h : H p = none) : Same H (L2.upd H p o) := fun a u e => by
  rw [upd_ne (ne_of_none e h)]; exact e
theorem Fr.upd {S : List Addr} {H : Hp} {p : Addr} {o : HO} (h : p ∈ S) : Fr S H (L2.upd H p o) := fun a u n e => by
  rw [upd_ne (fun z => n (by rw [z]; exact h))]; exact e
theorem Fr.new {S : List Addr} {H : Hp} {p : Addr} {o : HO} (h : H p = none) : Fr S H (L2.upd H p o) := fun a u n e => by
  rw [upd_ne (ne_of_none e h)]; exact e
/-- P hangs on the cells of S and on what never changes -/
def Loc (MC : Addr → Prop) (S : List Addr) (P : Hp → Prop) : Prop := ∀ H H' : Hp, (∀ a o, H a = some o → a ∈ S ∨ Imm MC o → H' a = some o) → P H → P H'
/-- the written part, the classes whose instances change -/
structure Hv where
  K : PySem.W.Frag
  MC : Addr → Prop
/-- a fact that stays -/
structure PF (E : Hv) where
  P : Hp → Prop
  loc : Loc E.MC [] P
/-- a thing of the heap: its cells; ro: it is read only -/
structure RS (E : Hv) where
  fp : List Addr
  P : Hp → Prop
  loc : Loc E.MC fp P
  ro : Bool := false
section
variable {E : Hv}
def fps : List (RS E) → List Addr
  | [] => []
  | r :: rs => r.fp ++ fps rs
def ows : List (RS E) → List Addr
  | [] => []
  | r :: rs => (if r.ro then [] else r.fp) ++ ows rs
inductive Pick {α : Type} : List α → α → List α → α → Prop where
  | here {r r' : α} {R : List α} : Pick (r :: R) r (r' :: R) r'
  | next {r r' x : α} {R R' : List α} : Pick R r R' r' → Pick (x :: R) r (x :: R') r'
theorem Pick.mem {α : Type} {R R' : List α} {r r' : α} (h : Pick R r R' r') : r ∈ R := by
  induction h with
  | here => exact .head _
  | next _ ih => exact .tail _ ih
theorem Pick.mem' {α : Type} {R R' : List α} {r r' : α} (h : Pick R r R' r') : r' ∈ R' := by
  induction h with
  | here => exact .head _
  | next _ ih => exact .tail _ ih
theorem Pick.or {α : Type} {R R' : List α} {r r' : α} (h : Pick R r R' r') : ∀ x ∈ R', x = r' ∨ x ∈ R := by
  induction h with
  | here => intro x hx; cases hx with
    | head => exact .inl rfl
    | tail _ h => exact .inr (.tail _ h)
  | next _ ih => intro x hx; cases hx with
    | head => exact .inr (.head _)
    | tail _ h => rcases ih x h with h | h
                  · exact .inl h
                  · exact .inr (.tail _ h)
theorem mem_fps {R : List (RS E)} {r : RS E} (h : r ∈ R) : ∀ a ∈ r.fp, a ∈ fps R := by
  induction h with
  | head => intro a ha; exact List.mem_append_left _ ha
  | tail _ _ ih => intro a ha; exact List.mem_append_right _ (ih a ha)
theorem fps_mem {R : List (RS E)} : ∀ a ∈ fps R, ∃ y ∈ R, a ∈ y.fp := by
  induction R with
  | nil => intro a ha; cases ha
  | cons y ys ih =>
    intro a ha
    rcases List.mem_append.mp ha with h | h
    · exact ⟨y, .head _, h⟩
    · obtain ⟨u, hu, k⟩ := ih a h
      exact ⟨u, .tail _ hu, k⟩
theorem mem_ows {R : List (RS E)} {r : RS E} (h : r ∈ R) (hr : r.ro = false) : ∀ a ∈ r.fp, a ∈ ows R := by
  induction h with
  | head => intro a ha; exact List.mem_append_left _ (by rw [hr]; exact ha)
  | tail _ _ ih => intro a ha; exact List.mem_append_right _ (ih a ha)
theorem ows_fps {R : List (RS E)} : ∀ a ∈ ows R, a ∈ fps R := by
  induction R with
  | nil => intro a h; exact h
  | cons r rs ih =>
    intro a h
    rcases List.mem_append.mp h with h | h
    · cases hr : r.ro with
      | true => rw [hr] at h; cases h
      | false => rw [hr] at h; exact List.mem_append_left _ h
    · exact List.mem_append_right _ (ih a h)
/-- H0, S0: the heap at the entry, the cells that may be changed -/
structure SS (E : Hv) (H0 : Hp) (S0 : List Addr) (H : Hp) (F : List (PF E)) (R : List (RS E)) : Prop where
  f : ∀ x ∈ F, x.P H
  r : ∀ x ∈ R, x.P H
  nd : (fps R).Nodup
  tr : ∀ a ∈ fps R, ∃ o, H a = some o ∧ ¬ Imm E.MC o
  fr : Fr S0 H0 H
  ow : ∀ a ∈ ows R, a ∈ S0 ∨ H0 a = none
variable {H0 H H' : Hp} {S0 : List Addr} {F F' : List (PF E)} {R R' : List (RS E)} {r r' : RS E} {x : PF E} {p : Addr} {o : HO}
theorem SS.same (s : SS E H0 S0 H F R) (k : Same H H') : SS E H0 S0 H' F R where
  f := fun x hx => x.loc H H' (fun a o h _ => k a o h) (s.f x hx)
  r := fun x hx => x.loc H H' (fun a o h _ => k a o h) (s.r x hx)
  nd := s.nd
  tr := fun a ha => by obtain ⟨o, h, i⟩ := s.tr a ha; exact ⟨o, k _ _ h, i⟩
  fr := s.fr.trans (Fr.of k)
  ow := s.ow
theorem SS.add (s : SS E H0 S0 H F R) (x : PF E) (h : x.P H) : SS E H0 S0 H (x :: F) R where
  f := fun y hy => by cases hy with
    | head => exact h
    | tail _ hy => exact s.f y hy
  r := s.r
  nd := s.nd
  tr := s.tr
  fr := s.fr
  ow := s.ow
/-- fewer facts -/
theorem SS.sub (s : SS E H0 S0 H F R) (h : ∀ x ∈ F', x ∈ F) : SS E H0 S0 H F' R := ⟨fun x hx => s.f x (h x hx), s.r, s.nd, s.tr, s.fr, s.ow⟩
theorem SS.drop (s : SS E H0 S0 H F (r :: R)) : SS E H0 S0 H F R where
  f := s.f
  r := fun x hx => s.r x (.tail _ hx)
  nd := (List.nodup_append.mp s.nd).2.1
  tr := fun a ha => s.tr a (List.mem_append_right _ ha)
  fr := s.fr
  ow := fun a ha => s.ow a (List.mem_append_right _ ha)
/-- a new thing -/
theorem SS.newR (s : SS E H0 S0 H F R) (r : RS E) (k : Same H H') (h : r.P H') (nd : r.fp.Nodup) (new : ∀ a ∈ r.fp, H a = none) (tr : ∀ a ∈ r.fp, ∃ o, H' a = some o ∧ ¬ Imm E.MC o) : SS E H0 S0 H' F (r :: R) where
  f := (s.same k).f
  r := fun x hx => by cases hx with
    | head => exact h
    | tail _ hx => exact (s.same k).r x hx
  nd := by
    refine List.nodup_append.mpr ⟨nd, s.nd, fun a ha b hb e => ?_⟩
    subst e
    obtain ⟨o, ho, _⟩ := s.tr a hb
    rw [new a ha] at ho; cases ho
  tr := fun a ha => by
    rcases List.mem_append.mp ha with ha | ha
    · exact tr a ha
    · exact (s.same k).tr a ha
  fr := (s.same k).fr
  ow := fun a ha => by
    rcases List.mem_append.mp ha with ha | ha
    · have ha' : a ∈ r.fp := by
        cases hr : r.ro with
        | true => rw [hr] at ha; cases ha
        | false => rw [hr] at ha; exact ha
      by_cases hs : a ∈ S0
      · exact .inl hs
      · refine .inr ?_
        cases q : H0 a with
        | none => rfl
        | some o =>
          have z := s.fr a o hs q
          rw [new a ha'] at z; cases z
    · exact s.ow a ha
theorem fps_pick (h : Pick R r R' r') : ∀ a ∈ fps R', a ∈ r'.fp ∨ a ∈ fps R := by
  induction h with
  | here =>
    intro a ha
    rcases List.mem_append.mp ha with ha | ha
    · exact .inl ha
    · exact .inr (List.mem_append_right _ ha)
  | next _ ih =>
    intro a ha
    rcases List.mem_append.mp ha with ha | ha
    · exact .inr (List.mem_append_left _ ha)
    · rcases ih a ha with h | h
      · exact .inl h
      · exact .inr (List.mem_append_right _ h)
theorem ows_pick (h : Pick R r R' r') : ∀ a ∈ ows R', (a ∈ r'.fp ∧ r'.ro = false) ∨ a ∈ ows R := by
  induction h with
  | @here r r' R =>
    intro a ha
    rcases List.mem_append.mp ha with ha | ha
    · cases hr : r'.ro with
      | true => rw [hr] at ha; cases ha
      | false => rw [hr] at ha; exact .inl ⟨ha, rfl⟩
    · exact .inr (List.mem_append_right _ ha)
  | next _ ih =>
    intro a ha
    rcases List.mem_append.mp ha with ha | ha
    · exact .inr (List.mem_append_left _ ha)
    · rcases ih a ha with h | h
      · exact .inl h
      · exact .inr (List.mem_append_right _ h)
/-- the cells of one thing, and those of all others -/
theorem pick_split (h : Pick R r R' r') (nd : (fps R).Nodup) : (∀ x ∈ R', x = r' ∨ (x ∈ R ∧ ∀ a ∈ x.fp, a ∉ r.fp)) := by
  induction h with
  | @here r r' R =>
    intro x hx
    cases hx with
    | head => exact .inl rfl
    | tail _ hx =>
      refine .inr ⟨.tail _ hx, fun a ha hb => ?_⟩
      exact (List.nodup_append.mp nd).2.2 a hb a (mem_fps hx a ha) rfl
  | @next r r' y R R' p ih =>
    intro x hx
    have n := List.nodup_append.mp nd
    cases hx with
    | head => exact .inr ⟨.head _, fun a ha hb => n.2.2 a ha a (mem_fps p.mem a hb) rfl⟩
    | tail _ hx =>
      rcases ih n.2.1 x hx with h | ⟨h, k⟩
      · exact .inl h
      · exact .inr ⟨.tail _ h, k⟩
theorem pick_nodup (h : Pick R r R' r') (nd : (fps R).Nodup) (nr : r'.fp.Nodup) (hn : ∀ a ∈ r'.fp, a ∈ r.fp ∨ a ∉ fps R) : (fps R').Nodup := by
  induction h with
  | @here r r' R =>
    have n := List.nodup_append.mp nd
    refine List.nodup_append.mpr ⟨nr, n.2.1, fun a ha b hb e => ?_⟩
    subst e
    rcases hn a ha with h | h
    · exact n.2.2 a h a hb rfl
    · exact h (List.mem_append_right _ hb)
  | @next r r' y R R' p ih =>
    have n := List.nodup_append.mp nd
    refine List.nodup_append.mpr ⟨n.1, ih n.2.1 nr (fun a ha => ?_), fun a ha b hb e => ?_⟩
    · rcases hn a ha with h | h
      · exact .inl h
      · exact .inr fun z => h (List.mem_append_right _ z)
    · subst e
      rcases fps_pick p a hb with h | h
      · rcases hn a h with k | k
        · exact n.2.2 a ha a (mem_fps p.mem a k) rfl
        · exact k (List.mem_append_left _ ha)
      · exact n.2.2 a ha a h rfl
/-- one thing is changed -/
theorem SS.upd (s : SS E H0 S0 H F R) (p : Pick R r R' r') (ro : r.ro = false) (k : Fr r.fp H H') (h : r'.P H') (nd : r'.fp.Nodup) (own : ∀ a ∈ r'.fp, a ∈ r.fp ∨ H a = none) (tr : ∀ a ∈ r'.fp, ∃ o, H' a = some o ∧ ¬ Imm E.MC o) : SS E H0 S0 H' F R' := by
  have imm : ∀ a o, H a = some o → Imm E.MC o → a ∉ fps R := fun a o e i z => by
    obtain ⟨u, hu, hi⟩ := s.tr a z
    rw [e] at hu; cases hu; exact hi i
  have stay : ∀ a o, H a = some o → Imm E.MC o → H' a = some o := fun a o e i => k a o (fun z => imm a o e i (mem_fps p.mem a z)) e
  have apart := pick_split p s.nd
  refine ⟨fun x hx => x.loc H H' (fun a o e z => stay a o e (z.resolve_left (List.not_mem_nil))) (s.f x hx), fun x hx => ?_, ?_, ?_, ?_, ?_⟩
  · rcases apart x hx with rfl | ⟨hx, hn⟩
    · exact h
    · exact x.loc H H' (fun a o e z => z.elim (fun z => k a o (hn a z) e) (stay a o e)) (s.r x hx)
  · refine pick_nodup p s.nd nd fun a ha => ?_
    rcases own a ha with h | h
    · exact .inl h
    · refine .inr fun z => ?_
      obtain ⟨o, ho, _⟩ := s.tr a z
      rw [h] at ho; cases ho
  · intro a ha
    rcases fps_pick p a ha with h | h
    · exact tr a h
    · obtain ⟨o, ho, hi⟩ := s.tr a h
      by_cases z : a ∈ r'.fp
      · exact tr a z
      · by_cases z2 : a ∈ r.fp
        · -- a cell of the old thing that is not one of the new one: then it is not in fps R'
          exfalso
          have this := fps_mem a ha
          obtain ⟨y, hy, hay⟩ := this
          rcases apart y hy with rfl | ⟨_, hn⟩
          · exact z hay
          · exact hn a hay z2
        · exact ⟨o, k a o z2 ho, hi⟩
  · intro a o n e
    refine k a o (fun z => ?_) (s.fr a o n e)
    rcases s.ow a (mem_ows p.mem ro a z) with h | h
    · exact n h
    · rw [h] at e; cases e
  · intro a ha
    rcases ows_pick p a ha with ⟨h, _⟩ | h
    · rcases own a h with h | h
      · exact s.ow a (mem_ows p.mem ro a h)
      · by_cases hs : a ∈ S0
        · exact .inl hs
        · refine .inr ?_
          cases q : H0 a with
          | none => rfl
          | some o =>
            have z := s.fr a o hs q
            rw [h] at z; cases z
    · exact s.ow a h
/-- at the entry: facts and things as they stand -/
theorem SS.start (f : ∀ x ∈ F, x.P H) (r : ∀ x ∈ R, x.P H) (nd : (fps R).Nodup) (tr : ∀ a ∈ fps R, ∃ o, H a = some o ∧ ¬ Imm E.MC o) : SS E H (ows R) H F R := ⟨f, r, nd, tr, Fr.refl, fun a h => .inl h⟩
theorem SS.start0 : SS E H ([] : List Addr) H [] [] := SS.start (E := E) (F := []) (R := []) (by intro _ h; cases h) (by intro _ h; cases h) List.nodup_nil (by intro _ h; cases h)

/-! ### the usual facts and things -/
def tupF (a : Addr) (xs : List V) : PF E := ⟨fun H => SqT E.K H a xs, fun H H' k h => by
  rcases h with (h | ⟨o, h⟩) | h
  · exact .inl (.inl (k _ _ h (.inr trivial)))
  · exact .inl (.inr ⟨o, k _ _ h (.inr trivial)⟩)
  · exact .inr h⟩
/-- a list that is locked (the script) or written in the text -/
def lsF (a : Addr) (xs : List V) : PF E := ⟨fun H => (∃ o, H a = some (.frz o (.lst xs))) ∨ ∃ (o : Obj) (its : Array Value) (n : Nat), E.K.lookup a = some o ∧ o.cls = .type "list" ∧ o.dict = none ∧ o.data = .seq its n ∧ its.size ≤ sizeLine ∧ Vals xs its.toList,
  fun H H' k h => h.elim (fun ⟨o, h⟩ => .inl ⟨o, k _ _ h (.inr trivial)⟩) .inr⟩
theorem lsF.sq {a : Addr} {xs : List V} {H : Hp} (h : (lsF (E := E) a xs).P H) : SqL E.K H a xs := h.elim (fun ⟨o, h⟩ => .inl (.inr ⟨o, h⟩)) .inr
/-- an instance that never changes -/
def insF (C a : Addr) (fs : List (Str × V)) (n : ¬ E.MC C) : PF E := ⟨fun H => ∃ dx, H a = some (.ins C dx fs), fun H H' k ⟨dx, h⟩ => ⟨dx, k _ _ h (.inr n)⟩⟩
/-- one cell -/
def cellR (a : Addr) (o : HO) (ro : Bool := false) : RS E := ⟨[a], fun H => H a = some o, fun H H' k h => k _ _ h (.inl (.head _)), ro⟩
abbrev lstR (a : Addr) (xs : List V) (ro : Bool := false) : RS E := cellR a (.lst xs) ro
/-- a list to be read, whatever it is -/
def seqR (a : Addr) (xs : List V) : Bool → RS E
  | true => ⟨[a], fun H => H a = some (.lst xs), fun H H' k h => k _ _ h (.inl (.head _)), true⟩
  | false => ⟨[], (lsF a xs).P, (lsF a xs).loc, true⟩
theorem seqR.sq {a : Addr} {xs : List V} {H : Hp} : ∀ {b : Bool}, (seqR (E := E) a xs b).P H → SqL E.K H a xs
  | true, h => .inl (.inl h)
  | false, h => lsF.sq (E := E) h
theorem cell_nd {a : Addr} {o : HO} {b : Bool} : (cellR (E := E) a o b).fp.Nodup := List.nodup_cons.mpr ⟨List.not_mem_nil, List.nodup_nil⟩
/-- a cell is rewritten -/
theorem SS.put (s : SS E H0 S0 H F R) {u : HO} (q : Pick R (cellR p o) R' (cellR p u)) (n : ¬ Imm E.MC u) : SS E H0 S0 (L2.upd H p u) F R' :=
  s.upd q rfl (Fr.upd (.head _)) upd_same cell_nd (fun a h => .inl h) fun a h => by
    cases h with
    | head => exact ⟨u, upd_same, n⟩
    | tail _ h => cases h
/-- a new cell -/
theorem SS.newC (s : SS E H0 S0 H F R) (hp : H p = none) (n : ¬ Imm E.MC o) : SS E H0 S0 (L2.upd H p o) F (cellR p o :: R) :=
  s.newR (cellR p o) (Same.mk hp) upd_same cell_nd (fun a h => by cases h with
    | head => exact hp
    | tail _ h => cases h) fun a h => by
    cases h with
    | head => exact ⟨o, upd_same, n⟩
    | tail _ h => cases h
/-- one new cell since the entry -/
theorem SS.of1 (hp : H p = none) (s : Same H H') (h : H' p = some o) (n : ¬ Imm E.MC o) : SS E H ([] : List Addr) H' [] [cellR p o] where
  f := fun _ h => nomatch h
  r := fun x hx => by cases hx with
    | head => exact h
    | tail _ z => cases z
  nd := List.nodup_cons.mpr ⟨List.not_mem_nil, List.nodup_nil⟩
  tr := fun a ha => by cases ha with
    | head => exact ⟨_, h, n⟩
    | tail _ z => cases z
  fr := Fr.of s
  ow := fun a ha => by cases ha with
    | head => exact .inr hp
    | tail _ z => cases z
/-- one list that is read -/
theorem SS.ro1 (h : H p = some o) (n : ¬ Imm E.MC o) : SS E H ([] : List Addr) H [] [cellR p o true] where
  f := fun _ h => nomatch h
  r := fun x hx => by cases hx with
    | head => exact h
    | tail _ z => cases z
  nd := List.nodup_cons.mpr ⟨List.not_mem_nil, List.nodup_nil⟩
  tr := fun a ha => by cases ha with
    | head => exact ⟨_, h, n⟩
    | tail _ z => cases z
  fr := Fr.refl
  ow := fun a ha => nomatch ha
theorem SS.newT (s : SS E H0 S0 H F R) {xs : List V} (hp : H p = none) : SS E H0 S0 (L2.upd H p (.tup xs)) (tupF p xs :: F) R :=
  (s.same (Same.mk hp)).add (tupF p xs) (SqT.of upd_same)
theorem SS.cell (s : SS E H0 S0 H F R) {b : Bool} (m : cellR p o b ∈ R) : H p = some o := s.r _ m
theorem SS.seq (s : SS E H0 S0 H F R) {xs : List V} {b : Bool} (m : seqR p xs b ∈ R) : SqL E.K H p xs := seqR.sq (s.r _ m)
theorem SS.tup (s : SS E H0 S0 H F R) {xs : List V} (m : tupF p xs ∈ F) : SqT E.K H p xs := s.f _ m
end
end G
namespace G
open PySem PySem.Spec PyProof.Rows L2
/-! ### values and the heap: reading, writing, making -/
section
variable {E : Hv} {Γ : Gm} {H0 H : Hp} {S0 : List Addr} {F : List (PF E)} {R R' : List (RS E)} {l : Addr} {xs : List V} {i : Int} {v : V} {Q : VK} {b : Bool} {z : Str}
theorem ixr_l {X : Cx} (g : Good Γ X) : IxR X (rIxL Γ.K) := by rw [← g.K]; exact ix_list
theorem ixr_t {X : Cx} (g : Good Γ X) : IxR X (rIxT Γ.K) := by rw [← g.K]; exact ix_tup
theorem wx_l (m : SqL Γ.K H l xs) (h : atI xs i = some v) (q : Q v H) : WX Γ (.ref l) (.int i) H Q := ⟨_, fun _ g => ixr_l g, l, xs, i, v, rfl, rfl, m, h, q⟩
theorem wx_t (m : SqT Γ.K H l xs) (h : atI xs i = some v) (q : Q v H) : WX Γ (.ref l) (.int i) H Q := ⟨_, fun _ g => ixr_t g, l, xs, i, v, rfl, rfl, m, h, q⟩
theorem wx_s {c : Nat} (hz : z.length ≤ sizeLine) (h : atI z.cps.toList i = some c) (q : Q (.str ⟨#[c]⟩) H) : WX Γ (.str z) (.int i) H Q := ⟨_, fun _ g => ix_str, z, i, c, rfl, rfl, hz, h, q⟩
theorem wp_l {v : V} {j : Nat} {Q : Hp → Prop} (m : H l = some (.lst xs)) (h : ixN xs.length i = some j) (q : Q (upd H l (.lst (xs.set j v)))) : WP Γ (.ref l) (.int i) v H Q := ⟨_, fun _ _ => set_list, l, xs, i, j, rfl, rfl, m, h, q⟩
theorem wp_ss {v : V} {j : Nat} {Q : Hp → Prop} (s : SS E H0 S0 H F R) (p : Pick R (lstR l xs) R' (lstR l (xs.set j v))) (h : ixN xs.length i = some j) (q : ∀ H', SS E H0 S0 H' F R' → Q H') : WP Γ (.ref l) (.int i) v H Q :=
  ⟨_, fun _ _ => set_list, l, xs, i, j, rfl, rfl, s.cell p.mem, h, q _ (s.put p (fun z => z))⟩
theorem wc_len_l (m : SqL Γ.K H l xs) (q : Q (.int xs.length) H) : WC Γ (.builtin "len") [.ref l] H Q := ⟨_, fun _ g => clenS g, _, xs.length, rfl, .inl ⟨xs, m, rfl⟩, q⟩
theorem wc_len_t (m : SqT Γ.K H l xs) (q : Q (.int xs.length) H) : WC Γ (.builtin "len") [.ref l] H Q := ⟨_, fun _ g => clenS g, _, xs.length, rfl, .inr ⟨xs, m, rfl⟩, q⟩
theorem ty_l {K : PySem.W.Frag} (m : SqL K H l xs) : tyV K "list" (.ref l) H := .inl ⟨rfl, _, m⟩
theorem ty_s {K : PySem.W.Frag} : tyV K "str" (.str z) H := rfl
theorem ap_ss (s : SS E H0 S0 H F R) (p : Pick R (lstR l xs) R' (lstR l (xs ++ [v]))) (hl : xs.length < sizeLine) (k : ∀ H', SS E H0 S0 H' F R' → Q .non H') : rAppend (.ref l) [v] H Q :=
  ⟨l, xs, v, rfl, rfl, s.cell p.mem, hl, k _ (s.put p (fun z => z))⟩
theorem nt_ss {xs : List V} (s : SS E H0 S0 H F R) (k : ∀ p H', SS E H0 S0 H' (tupF p xs :: F) R → Q (.ref p) H') : ∀ p, H p = none → Q (.ref p) (upd H p (.tup xs)) := fun p hp => k p _ (s.newT hp)
theorem nl_ss {xs : List V} (s : SS E H0 S0 H F R) (k : ∀ p H', SS E H0 S0 H' F (lstR p xs :: R) → Q (.ref p) H') : ∀ p, H p = none → Q (.ref p) (upd H p (.lst xs)) := fun p hp => k p _ (s.newC hp (fun z => z))
/-- tuple(l), list(x) -/
theorem ctu {X : Cx} (g : Good Γ X) : CallR X (.type "tuple") (fun xs H Q => ∃ p ys, xs = [.ref p] ∧ ((SqL Γ.K H p ys ∧ ∀ l, H l = none → Q (.ref l) (upd H l (.tup ys))) ∨ (SqT Γ.K H p ys ∧ Q (.ref p) H))) := by rw [← g.K]; exact call_tuple_of
theorem cli {X : Cx} (g : Good Γ X) : CallR X (.type "list") (fun xs H Q => ∃ p ys, xs = [.ref p] ∧ (SqL Γ.K H p ys ∨ SqT Γ.K H p ys) ∧ ∀ l, H l = none → Q (.ref l) (upd H l (.lst ys))) := by rw [← g.K]; exact call_list_of
theorem wc_tup (m : SqL Γ.K H l xs) (q : ∀ p, H p = none → Q (.ref p) (upd H p (.tup xs))) : WC Γ (.type "tuple") [.ref l] H Q := ⟨_, fun _ g => ctu g, l, xs, rfl, .inl ⟨m, q⟩⟩
theorem wc_list (m : SqL Γ.K H l xs ∨ SqT Γ.K H l xs) (q : ∀ p, H p = none → Q (.ref p) (upd H p (.lst xs))) : WC Γ (.type "list") [.ref l] H Q := ⟨_, fun _ g => cli g, l, xs, rfl, m, q⟩
/-- xs + ys of lists -/
theorem wo_cat {b : Addr} {ys : List V} (m : H l = some (.lst xs)) (n : H b = some (.lst ys)) (hz : xs.length + ys.length ≤ sizeLine) (q : ∀ p, H p = none → Q (.ref p) (upd H p (.lst (xs ++ ys)))) : WO Γ (binaryOp .Add) (.ref l) (.ref b) H Q :=
  ⟨_, fun _ _ => op_cat, l, b, xs, ys, rfl, rfl, m, n, hz, q⟩
theorem slk {X : Cx} (g : Good Γ X) : SlR X (rSlL Γ.K) := by rw [← g.K]; exact sl_list
theorem wl_l {lo hi : Option Int} (m : SqL Γ.K H l xs) (q : ∀ p, H p = none → Q (.ref p) (upd H p (.lst (cutV xs lo hi)))) : WL Γ (.ref l) lo hi H Q := ⟨_, fun _ g => slk g, l, xs, rfl, m, q⟩
theorem slt {X : Cx} (g : Good Γ X) : SlR X (rSlT Γ.K) := by rw [← g.K]; exact sl_tup
theorem wl_t {lo hi : Option Int} (m : SqT Γ.K H l xs) (n : ¬ (HT.sIx xs.length 0 lo = 0 ∧ HT.sIx xs.length xs.length hi = xs.length)) (q : ∀ p, H p = none → Q (.ref p) (upd H p (.tup (cutV xs lo hi)))) : WL Γ (.ref l) lo hi H Q := ⟨_, fun _ g => slt g, l, xs, rfl, m, n, q⟩
theorem szl {n : Nat} (h : n ≤ 100000) : n ≤ sizeLine := Nat.le_trans h (by decide)
theorem Fr.sql {K : PySem.W.Frag} {H' : Hp} (x : Fr S0 H H') (h : SqL K H l xs) (n : l ∉ S0) : SqL K H' l xs := by
  rcases h with (h | ⟨o, h⟩) | h
  · exact .inl (.inl (x _ _ n h))
  · exact .inl (.inr ⟨o, x _ _ n h⟩)
  · exact .inr h
theorem Fr.sqt {K : PySem.W.Frag} {H' : Hp} (x : Fr S0 H H') (h : SqT K H l xs) (n : l ∉ S0) : SqT K H' l xs := by
  rcases h with (h | ⟨o, h⟩) | h
  · exact .inl (.inl (x _ _ n h))
  · exact .inl (.inr ⟨o, x _ _ n h⟩)
  · exact .inr h
theorem cut_to (xs : List V) (m : Nat) : cutV xs none (some (m : Int)) = xs.take m := by
  unfold cutV
  rw [HT.sIx_none, HT.sIx_nat, List.drop_zero, Nat.sub_zero, Nat.min_def]
  split
  · rfl
  · rw [List.take_length, List.take_of_length_le (by omega)]
theorem cut_from (xs : List V) (m : Nat) : cutV xs (some (m : Int)) none = xs.drop m := by
  unfold cutV
  rw [HT.sIx_none, HT.sIx_nat, Nat.min_def]
  split
  · rw [List.take_of_length_le (by rw [List.length_drop]; omega)]
  · rw [Nat.sub_self, List.take_zero, List.drop_of_length_le (by omega)]
theorem atG {α : Type} {xs : List α} {z : Int} {j : Nat} {v : α} (e : z = (j : Int)) (h : xs[j]? = some v) : atI xs z = some v := by
  rw [e]
  exact atI_nat h
theorem ixN_n {n j : Nat} (hj : j < n) : ixN n (j : Int) = some j := by
  unfold ixN
  rw [if_pos (Int.natCast_nonneg j), if_pos (by omega)]
  rfl
/-- the tail of a tuple -/
theorem wl_tl {x : V} (m : SqT Γ.K H l (x :: xs)) (q : ∀ p, H p = none → Q (.ref p) (upd H p (.tup xs))) : WL Γ (.ref l) (some 1) none H Q := wl_t m (fun h => by
    have := h.1
    rw [show (1 : Int) = ((1 : Nat) : Int) from rfl, HT.sIx_nat, List.length_cons] at this
    omega) fun p hp => by
  have := q p hp
  rw [show (some (1 : Int)) = some ((1 : Nat) : Int) from rfl, cut_from]
  exact this
/-! ### loops -/
def LP (J : It) (g : TG) (tb : TS) (D : Ends) (σ : L2.St) (H : Hp) : Prop := ∃ W : Nat → Nat → L2.St → Hp → Prop, (∃ m, W 0 m σ H) ∧ ∀ i m σ H, W i m σ H →
  (J.stop i H ∧ D.nx σ H) ∨ (J.go i H ∧ ∃ N : L2.St → Hp → Prop, (∀ σ' H', N σ' H' → ∃ m', m' < m ∧ W (i + 1) m' σ' H') ∧ ∀ x H', J.yld i H x H' → g x σ H' fun σ2 H2 => tb { D with nx := N, ct := N, bk := D.nx } σ2 H2)
theorem tFor_eq {wi : TI} {g : TG} {tb : TS} {D : Ends} {σ : L2.St} : tFor wi g tb D σ H = wi σ H fun J H1 => LP J g tb D σ H1 := rfl
def LQ (J : It) (g : TG) (tt : TT) (te : TE) (vs : List Nat) (σ : L2.St) (D : Addr) (Q : VK) (H1 : Hp) : Prop := ∃ W : Nat → Nat → Hp → Prop, (∃ m, W 0 m (upd H1 D (.lst []))) ∧ ∀ i m H, W i m H →
  (J.stop i H ∧ Q (.ref D) H) ∨ (J.go i H ∧ ∃ Nx : Hp → Prop, (∀ H', Nx H' → ∃ m', m' < m ∧ W (i + 1) m' H') ∧ ∀ x H', J.yld i H x H' → g x (wipe σ vs) H' fun σ2 H2 => wipe σ2 vs = wipe σ vs ∧ tt σ2 H2 fun b H3 =>
    if b = true then te σ2 H3 fun y H4 => ∃ acc, H4 D = some (.lst acc) ∧ acc.length < sizeLine ∧ Nx (upd H4 D (.lst (acc ++ [y]))) else Nx H3)
theorem tLc_eq {wi : TI} {g : TG} {tt : TT} {te : TE} {vs : List Nat} {σ : L2.St} : tLc wi g tt te vs σ H Q = wi σ H fun J H1 => ∀ D, H1 D = none → LQ J g tt te vs σ D Q H1 := rfl
section
variable {J : It} {n : Nat} {G : Hp → Prop} {Y : Nat → Hp → V → Hp → Prop}
/-- a for over what is walked -/
theorem lp_it (w : Walk J n G Y) {g : TG} {tb : TS} {D : Ends} {σ : L2.St} (Pv : Nat → L2.St → Hp → Prop) (h0 : Pv 0 σ H) (hG : ∀ i σ H, i ≤ n → Pv i σ H → G H)
    (hs : ∀ i x σ H H', i < n → Pv i σ H → Y i H x H' → g x σ H' fun σ2 H2 => tb ⟨Pv (i + 1), D.rt, D.nx, Pv (i + 1)⟩ σ2 H2) (hd : ∀ σ H, Pv n σ H → D.nx σ H) : LP J g tb D σ H := for_it w Pv h0 hG hs hd
theorem lp_range {lo : Int} {n : Nat} {g : TG} {tb : TS} {D : Ends} {σ : L2.St} (Pv : Nat → L2.St → Hp → Prop) (h0 : Pv 0 σ H)
    (hs : ∀ i σ H, i < n → Pv i σ H → g (.int (lo + i)) σ H fun σ2 H2 => tb ⟨Pv (i + 1), D.rt, D.nx, Pv (i + 1)⟩ σ2 H2) (hd : ∀ σ H, Pv n σ H → D.nx σ H) : LP (Itr lo n) g tb D σ H := for_range Pv h0 hs hd
theorem lp_list {a : Addr} {xs : List V} {g : TG} {tb : TS} {D : Ends} {σ : L2.St} {K : PySem.W.Frag} (Pv : Nat → L2.St → Hp → Prop) (h0 : Pv 0 σ H) (hl : ∀ i σ H, i ≤ xs.length → Pv i σ H → SqL K H a xs)
    (hs : ∀ i x σ H, xs[i]? = some x → Pv i σ H → g x σ H fun σ2 H2 => tb ⟨Pv (i + 1), D.rt, D.nx, Pv (i + 1)⟩ σ2 H2) (hd : ∀ σ H, Pv xs.length σ H → D.nx σ H) : LP (Itl K a) g tb D σ H := for_list Pv h0 hl hs hd
theorem lp_tup {a : Addr} {xs : List V} {g : TG} {tb : TS} {D : Ends} {σ : L2.St} {K : PySem.W.Frag} (Pv : Nat → L2.St → Hp → Prop) (h0 : Pv 0 σ H) (hl : ∀ i σ H, i ≤ xs.length → Pv i σ H → SqT K H a xs)
    (hs : ∀ i x σ H, xs[i]? = some x → Pv i σ H → g x σ H fun σ2 H2 => tb ⟨Pv (i + 1), D.rt, D.nx, Pv (i + 1)⟩ σ2 H2) (hd : ∀ σ H, Pv xs.length σ H → D.nx σ H) : LP (Itt K a) g tb D σ H := for_tup Pv h0 hl hs hd
/-- a comprehension over what is walked; acc is what has been made -/
theorem lq_it (w : Walk J n G Y) {g : TG} {tt : TT} {te : TE} {vs : List Nat} {σ : L2.St} {D : Addr} (Pv : Nat → List V → Hp → Prop) (h0 : Pv 0 [] (upd H D (.lst []))) (hG : ∀ i acc H, i ≤ n → Pv i acc H → G H)
    (hs : ∀ i x acc H H', i < n → acc.length ≤ i → Pv i acc H → Y i H x H' → g x (wipe σ vs) H' fun σ2 H2 => wipe σ2 vs = wipe σ vs ∧ tt σ2 H2 fun b H3 =>
      br b (te σ2 H3 fun y H4 => ∃ acc', H4 D = some (.lst acc') ∧ acc'.length < sizeLine ∧ ∃ acc2, acc2.length ≤ i + 1 ∧ Pv (i + 1) acc2 (upd H4 D (.lst (acc' ++ [y])))) (∃ acc2, acc2.length ≤ i + 1 ∧ Pv (i + 1) acc2 H3))
    (hd : ∀ acc H, acc.length ≤ n → Pv n acc H → Q (.ref D) H) : LQ J g tt te vs σ D Q H :=
  lc_it w (fun i H => ∃ acc, acc.length ≤ i ∧ Pv i acc H) ⟨[], Nat.zero_le _, h0⟩ (fun i H hi ⟨acc, _, h⟩ => hG i acc H hi h) (fun i x H H' hi ⟨acc, hl, h⟩ y => by
    have := hs i x acc H H' hi hl h y
    simp only [← br_eq] at this
    exact this) fun H ⟨acc, hl, h⟩ => hd acc H hl h
end
/-- the end of a turn: the new item is appended to the comprehension's own list, which is ours -/
theorem lq_add {D : Addr} {acc : List V} {i : Nat} {P : List V → Prop} (s : SS E H0 S0 H F (lstR D acc :: R)) (hl : acc.length ≤ i) (hi : i < sizeLine) (k : P acc) : ∃ acc', H D = some (.lst acc') ∧ acc'.length < sizeLine ∧ P acc' :=
  ⟨acc, s.cell (.head _), Nat.lt_of_le_of_lt hl hi, k⟩
theorem lq_len {acc : List V} {y : V} {i : Nat} (hl : acc.length ≤ i) : (acc ++ [y]).length ≤ i + 1 := by rw [List.length_append, List.length_singleton]; omega
theorem SS.app {D : Addr} {acc : List V} {y : V} (s : SS E H0 S0 H F (lstR D acc :: R)) : SS E H0 S0 (L2.upd H D (.lst (acc ++ [y]))) F (lstR D (acc ++ [y]) :: R) := s.put .here (fun z => z)
theorem lt_size {n : Nat} (h : n < 100000) : n < sizeLine := Nat.lt_of_lt_of_le h (by decide)
theorem nodup_len {α : Type} [DecidableEq α] : ∀ (l D : List α), l.Nodup → (∀ x ∈ l, x ∈ D) → l.length ≤ D.length
  | [], D, _, _ => Nat.zero_le _
  | x :: r, D, h, k => by
    have hx := k x (.head _)
    have n := List.nodup_cons.mp h
    have ih := nodup_len r (D.erase x) n.2 fun y hy => (List.mem_erase_of_ne (fun e => n.1 (by rw [← e]; exact hy))).mpr (k y (.tail _ hy))
    rw [List.length_erase_of_mem hx] at ih
    have : 0 < D.length := List.length_pos_of_mem hx
    rw [List.length_cons]
    omega
end
end G
namespace G
open PySem PySem.Spec PyProof.Rows L2
theorem passE {X : Cx} {E : XK} : Passes CX0 X E := fun _ _ _ _ _ _ _ h => h.elim
/-! ### own classes: what the text has written of them -/
structure Kls (Γ : Gm) (C : Addr) : Prop where
  cls : Cls Γ.K C
  first : PySem.W.selfFirst Γ.K C = true
  ca : PySem.W.findIn Γ.K (.ref C) "__class__" = some (some (.builtin "object.__class__"))
  cn : PySem.W.specialIn Γ.K (.builtin "object.__class__") "__get__" = some (some (.builtin "getset_descriptor.__get__"))
  ct : PySem.W.takesIn Γ.K (.builtin "object.__class__") = some true
  cm : PySem.W.mroIn Γ.K C (.type "object") = some true
/-- a method: what it promises -/
structure Mt (Γ : Gm) (CX : CXT) (k : Nat) (C : Addr) (m : Str) (sp : Sp) (dvs : List V) : Prop where
  ex : ∃ (f : Addr) (fd : FuncData) (ps : List Str) (ds : List Value), FnOk Γ.P Γ.w Γ.K Γ.mg Γ.base CX k f fd ps sp ∧ Cls Γ.K C ∧ Meth Γ.K C m f ∧ Binds Γ.K fd ps ds ∧ Vals dvs ds
/-- where a method stands -/
structure DfM (Γ : Gm) (C : Addr) (m qual : Str) (st : Stmt) (ps : List Str) : Prop where
  ex : ∃ (f : Addr) (fd : FuncData), L2.Fun Γ.K m qual st f fd ∧ Cls Γ.K C ∧ Meth Γ.K C m f ∧ Binds Γ.K fd ps []
/-- where a property's getter stands -/
structure DfP (Γ : Gm) (C : Addr) (m qual : Str) (st : Stmt) (ps : List Str) : Prop where
  ex : ∃ (p f : Addr) (fd : FuncData), L2.Fun Γ.K m qual st f fd ∧ Cls Γ.K C ∧ PropOf Γ.K C m p f ∧ Binds Γ.K fd ps []
/-- a property -/
structure Pr (Γ : Gm) (CX : CXT) (k : Nat) (C : Addr) (m : Str) (sp : Sp) : Prop where
  ex : ∃ (p f : Addr) (fd : FuncData) (ps : List Str), FnOk Γ.P Γ.w Γ.K Γ.mg Γ.base CX k f fd ps sp ∧ Cls Γ.K C ∧ PropOf Γ.K C m p f ∧ Binds Γ.K fd ps []
/-- a class that is made -/
structure Mkr (Γ : Gm) (CX : CXT) (k : Nat) (x : Str) (C : Addr) (sp : Sp) (dvs : List V) : Prop where
  ex : ∃ (f : Addr) (fd : FuncData) (ps : List Str) (ds : List Value), FnOk Γ.P Γ.w Γ.K Γ.mg Γ.base CX k f fd ps sp ∧ Mk Γ.K C f ∧ Γ.mg x = some (.ref C) ∧ Binds Γ.K fd ps ds ∧ Vals dvs ds
section
variable {Γ : Gm} {C : Addr} {m qual : Str} {st : Stmt} {ps N : List Str} {k : Nat} {sp : Sp}
/-- the rule for a method, by its body -/
theorem DfM.mt (d : DfM Γ C m qual st ps) (S : FnScope N ps (defScope st)) (len : ∀ vs H Q E, sp vs H Q E → vs.length = ps.length)
    (hbody : ∀ (f : Addr) (cdv : Value) (A : Around) (outer : List Env) (s : Shared) (H : Hp) (vs : List V) (Q : VK) (E : XK), Good (Γ.at k) (cxOf CX0 Γ.P Γ.w Γ.K Γ.mg Γ.base N qual (defScope st) f cdv A outer s H E).nox → sp vs H Q E →
      ∃ t, PSs (cxOf CX0 Γ.P Γ.w Γ.K Γ.mg Γ.base N qual (defScope st) f cdv A outer s H E).nox (defBody st) t ∧ t { nx := fun _ H' => Q .non H', rt := Q } (L2.start N vs) H) : Mt Γ CX0 (k + 1) C m sp [] := by
  obtain ⟨f, fd, F, c, h, b⟩ := d.ex
  exact ⟨f, fd, ps, [], F.ok S len fun cdv A outer s H vs Q E hr h => hbody f cdv A outer s H vs Q E (Good.of hr).nox h, c, h, b, .nil⟩
theorem DfP.pr (d : DfP Γ C m qual st ps) (S : FnScope N ps (defScope st)) (len : ∀ vs H Q E, sp vs H Q E → vs.length = ps.length)
    (hbody : ∀ (f : Addr) (cdv : Value) (A : Around) (outer : List Env) (s : Shared) (H : Hp) (vs : List V) (Q : VK) (E : XK), Good (Γ.at k) (cxOf CX0 Γ.P Γ.w Γ.K Γ.mg Γ.base N qual (defScope st) f cdv A outer s H E).nox → sp vs H Q E →
      ∃ t, PSs (cxOf CX0 Γ.P Γ.w Γ.K Γ.mg Γ.base N qual (defScope st) f cdv A outer s H E).nox (defBody st) t ∧ t { nx := fun _ H' => Q .non H', rt := Q } (L2.start N vs) H) : Pr Γ CX0 (k + 1) C m sp := by
  obtain ⟨p, f, fd, F, c, h, b⟩ := d.ex
  exact ⟨p, f, fd, ps, F.ok S len fun cdv A outer s H vs Q E hr h => hbody f cdv A outer s H vs Q E (Good.of hr).nox h, c, h, b⟩
theorem Mt.imp {CX : CXT} {j : Nat} {sp' : Sp} {dvs : List V} (c : Mt Γ CX k C m sp dvs) (h : ∀ vs H Q E, sp' vs H Q E → sp vs H Q E) (hk : k ≤ j) : Mt Γ CX j C m sp' dvs := by
  obtain ⟨f, fd, ps, ds, F, r⟩ := c.ex
  exact ⟨f, fd, ps, ds, (F.imp h).mono hk, r⟩
theorem Mt.mkr {x : Str} {CX : CXT} (c : Mt Γ CX k C "__init__" sp []) (h1 : PySem.W.makesIn Γ.K C = true) (h2 : PySem.W.keepIn Γ.K (.ref C) = true) (h3 : Γ.mg x = some (.ref C)) : Mkr Γ CX k x C sp [] := by
  obtain ⟨f, fd, ps, ds, F, c, h, b, v⟩ := c.ex
  exact ⟨f, fd, ps, ds, F, ⟨h1, h.at_, h.fn, h2⟩, h3, b, v⟩
end
/-! ### defaults -/
/-- a def with defaults for its last parameters, which may be passed by name -/
structure DfD (Γ : Gm) (x : Str) (st : Stmt) (ps : List Str) (dvs : List V) : Prop where
  ex : ∃ (f : Addr) (fd : FuncData), FunD Γ.K x x (defArgs st) (defBody st) (defScope st) dvs [] f fd ∧ Γ.mg x = some (.ref f) ∧ Binds Γ.K fd ps [] ∧ (∃ ds, Vals dvs ds ∧ Binds Γ.K fd ps ds) ∧
    KBn Γ.K fd ps (ps.length - dvs.length) (ps.drop (ps.length - dvs.length)) (fun us ws => us ++ ws) (fun vs zs => vs ++ zs)
/-- a def called with keywords: n values, then those named ks -/
structure Clk (Γ : Gm) (CX : CXT) (k : Nat) (x : Str) (sp : Sp) (n : Nat) (ks : List Str) : Prop where
  ex : ∃ (f : Addr) (fd : FuncData) (ps : List Str), FnOk Γ.P Γ.w Γ.K Γ.mg Γ.base CX k f fd ps sp ∧ Γ.mg x = some (.ref f) ∧ PySem.W.keepIn Γ.K (.ref f) = true ∧ KBn Γ.K fd ps n ks (fun us ws => us ++ ws) (fun vs zs => vs ++ zs)
structure ClD (Γ : Gm) (CX : CXT) (k : Nat) (x : Str) (sp : Sp) (ps : List Str) (dvs : List V) : Prop where
  all : Cl Γ CX k x sp []
  few : Cl Γ CX k x sp dvs
  kw : Clk Γ CX k x sp (ps.length - dvs.length) (ps.drop (ps.length - dvs.length))
theorem DfD.cl {Γ : Gm} {x : Str} {st : Stmt} {ps N : List Str} {dvs : List V} {k : Nat} {sp : Sp} (d : DfD Γ x st ps dvs) (S : FnScope N ps (defScope st)) (len : ∀ vs H Q E, sp vs H Q E → vs.length = ps.length)
    (hbody : ∀ (f : Addr) (cdv : Value) (A : Around) (outer : List Env) (s : Shared) (H : Hp) (vs : List V) (Q : VK) (E : XK), Good (Γ.at k) (cxOf CX0 Γ.P Γ.w Γ.K Γ.mg Γ.base N x (defScope st) f cdv A outer s H E) → sp vs H Q E →
      ∃ t, PSs (cxOf CX0 Γ.P Γ.w Γ.K Γ.mg Γ.base N x (defScope st) f cdv A outer s H E) (defBody st) t ∧ t { nx := fun _ H' => Q .non H', rt := Q } (L2.start N vs) H) : ClD Γ CX0 (k + 1) x sp ps dvs := by
  obtain ⟨f, fd, F, m, b, ⟨ds, v, b2⟩, kb⟩ := d.ex
  have ok := F.ok (P := Γ.P) (w := Γ.w) (mg := Γ.mg) (base := Γ.base) (CX := CX0) (k := k) S len fun cdv A outer s H vs Q E hr h => hbody f cdv A outer s H vs Q E (Good.of hr) h
  exact ⟨⟨f, fd, ps, [], ok, m, F.kp, b, .nil⟩, ⟨f, fd, ps, ds, ok, m, F.kp, b2, v⟩, ⟨f, fd, ps, ok, m, F.kp, kb⟩⟩
theorem pclk {Γ : Gm} {X : Cx} {CX : CXT} {k l n : Nat} {x : Str} {sp : Sp} {ks : List Str} {E : XK} {p pos : Pos} {e : Expr} {es : List Expr} {kws : List Keyword} {t tk : TA} (c : Clk Γ CX k x sp n ks) (g : Good (Γ.at l) X) (hk : k ≤ l) (hg : gvB X.env.scope x = true) (hx : Passes CX X E)
    (ha : PA X (e :: es) t) (hkw : PK X kws tk) (hall : (backToKw pos (keywordEach kws X.env)).all (·.1.isSome) = true := by rfl) (hks : (backToKw pos (keywordEach kws X.env)).filterMap (·.1) = ks := by rfl)
    (he : starEach (e :: es) X.env = (false, eval e X.env) :: starEach es X.env := by rfl)
    (hpl : ((backTo pos (starEach (e :: es) X.env)).any (·.1) || (backToKw pos (keywordEach kws X.env)).any (·.1.isNone)) = false := by rfl) :
    PE X (.Call (.Name x p) (e :: es) kws pos) (tCallN n ks.length sp (fun vs zs => vs ++ zs) E t tk) := by
  obtain ⟨P, w, K, mg, base, lv⟩ := Γ
  obtain ⟨h1, h2, h3, h4, h5, _, hr⟩ := g
  simp only at h1 h2 h3 h4 h5 hr
  subst h1 h2 h3 h4 h5
  obtain ⟨f, fd, ps, F, m, kp, kb⟩ := c.ex
  exact pe_callN F (hr.mono hk) (gv_of hg).1 m kp kb hx ha hkw hall hks (gv_of hg).2.1 he hpl
/-! ### attributes by values -/
def AtR (X : Cx) (f : Str) (r : V → Hp → VK → Prop) : Prop := ∀ (pins : List (Addr × Obj)) (s : Shared) (σ : L2.St) (H : Hp) (x : V) (v : Value) (b : Bool) (Q : VK), Inv X pins σ H s → RelV x v → r x H Q →
  wpAny (model X.prog X.w) X.A (getAttr v f b) (EP X pins σ Q) X.xe s
def WA (Γ : Gm) (f : Str) : V → Hp → VK → Prop := fun x H Q => ∃ r, (∀ X, Good Γ X → AtR X f r) ∧ r x H Q
section
variable {Γ : Gm} {X : Cx} {f : Str} {e o : Expr} {es : List Expr} {te ta : TE} {t : TA} {pos p apos : Pos} {r : V → Hp → VK → Prop} {a b C dx dy D : Addr} {fs gs : List (Str × V)} {H : Hp} {Q : VK} {v : V} {n l : Nat} {sp : Sp} {E : XK} {CX : CXT} {dvs : List V} {x m : Str}
theorem WA.ok (g : Good Γ X) : AtR X f (WA Γ f) := fun pins s σ H x v b Q I rx ⟨_, h, q⟩ => h X g pins s σ H x v b Q I rx q
theorem pe_at (h : AtR X f r) (he : PE X e te) (hb : attributeBase e f X.env (eval e X.env) = eval e X.env := by rfl) : PE X (.Attribute e f pos) (tUn r te) := by
  refine ⟨fun pins s σ H Q I q => ?_⟩
  exact attr_of hb (thn (he.run pins s σ H _ I q) fun u s1 ⟨x, H1, I1, rx, q⟩ => h pins s1 σ H1 x u _ Q I1 rx q)
theorem wa_fld (c : Cls Γ.K C) (k : NoAttr Γ.K C f) (ea : H a = some (.ins C dx fs)) (l : fs.lookup f = some v) (q : Q v H) : WA Γ f (.ref a) H Q :=
  ⟨fun x H Q => ∃ a C dx fs v, x = .ref a ∧ H a = some (.ins C dx fs) ∧ Cls Γ.K C ∧ NoAttr Γ.K C f ∧ fs.lookup f = some v ∧ Q v H, fun X g pins s σ H x u b Q I rx ⟨a, C, dx, fs, v, ex, ea, c, k, l, q⟩ => by
    subst ex
    obtain rfl : u = Value.ref a := rx
    rw [← g.K] at c k
    exact getattr_ok I ea c k l fun u' s2 I2 ru => ⟨v, H, I2, ru, q⟩, a, C, dx, fs, v, rfl, ea, c, k, l, q⟩
theorem wa_prop (p : Pr Γ CX0 n C f sp) (hn : n + 1 ≤ l) (ea : H a = some (.ins C dx fs)) (q : sp [.ref a] H Q E) : WA (Γ.at l) f (.ref a) H Q :=
  ⟨fun x H Q => ∃ a dx fs, x = .ref a ∧ H a = some (.ins C dx fs) ∧ sp [.ref a] H Q E, fun X g pins s σ H x u b Q I rx ⟨a, dx, fs, ex, ea, q⟩ => by
    subst ex
    obtain rfl : u = Value.ref a := rx
    obtain ⟨P, w, K, mg, base, lv⟩ := Γ
    obtain ⟨h1, h2, h3, h4, h5, _, hr⟩ := g
    simp only at h1 h2 h3 h4 h5 hr
    subst h1 h2 h3 h4 h5
    obtain ⟨p, g, fd, ps, F, c, hp, hb⟩ := p.ex
    exact getprop_ok I ea c hp F (hr.mono hn) hb .nil passE q, a, dx, fs, rfl, ea, q⟩
/-! ### methods, by what stands at the object -/
def tMw (Γ : Gm) (m : Str) (ta : TE) (t : TA) : TE := fun σ H Q => ta σ H fun x H1 => ∃ (n : Nat) (C a dx : Addr) (fs : List (Str × V)) (sp : Sp) (dvs : List V) (E : XK), Mt Γ CX0 n C m sp dvs ∧ n ≤ Γ.lv ∧ x = .ref a ∧ H1 a = some (.ins C dx fs) ∧ fs.lookup m = none ∧
  t σ H1 fun vs H2 => sp (x :: (vs ++ dvs)) H2 Q E
theorem pe_mw {pl : Sem Bool} (g : Good Γ X) (he : PE X o ta) (ha : PA X (e :: es) t)
    (hst : starEach (e :: es) X.env = (false, eval e X.env) :: starEach es X.env := by rfl) (hpl : (backTo pos (starEach es X.env)).any (·.1) = false := by rfl)
    (ht : eval (.Call (.Attribute o m apos) (e :: es) [] pos) X.env = (do
      let ov ← eval o X.env
      standAt apos.atName
      let (f, first) ← holding [ov] (getMethod ov m pl)
      callWith pos f first (backTo pos (starEach (e :: es) X.env)) (backToKw pos (keywordEach [] X.env))) := by rfl) :
    PE X (.Call (.Attribute o m apos) (e :: es) [] pos) (tMw Γ m ta t) := by
  refine ⟨fun pins s σ H Q I h => ?_⟩
  refine PySem.W.methodCall_KW (pl := pl) (thn (he.run pins s σ H _ I h) fun u s1 ⟨x, H1, I1, rx, n, C, a, dx, fs, sp, dvs, E, M, hn, ex, ea, l, q⟩ => ?_) ht
  subst ex
  obtain rfl : u = Value.ref a := rx
  obtain ⟨P, w, K, mg, base, lv⟩ := Γ
  obtain ⟨h1, h2, h3, h4, h5, _, hr⟩ := g
  simp only at h1 h2 h3 h4 h5 hr
  subst h1 h2 h3 h4 h5
  obtain ⟨f, fd, ps, ds, F, c, hm, hb, hd⟩ := M.ex
  refine getmeth_ok I1 ea c hm l ?_
  refine PySem.W.callWith_K (first := [.ref a]) (h₀ := X.base) I.ok.mod.kin hm.kp (thn (ha.run pos pins s1 σ H1 _ I1 q) fun us s2 ⟨vs, H2, I2, r, q2⟩ => ⟨I2.kIn, ?_⟩) hst hpl
  exact run_fn (us := .ref a :: us) (vs := .ref a :: vs) F (hr.mono hn) hb hd passE I2 (.cons rfl r) q2
theorem pe_mw0 {pl : Sem Bool} (g : Good Γ X) (he : PE X o ta)
    (ht : eval (.Call (.Attribute o m apos) [] [] pos) X.env = (do
      let ov ← eval o X.env
      standAt apos.atName
      let (f, first) ← holding [ov] (getMethod ov m pl)
      callWith pos f first (backTo pos (starEach [] X.env)) (backToKw pos (keywordEach [] X.env))) := by rfl) :
    PE X (.Call (.Attribute o m apos) [] [] pos) (tMw Γ m ta tNil) := by
  refine ⟨fun pins s σ H Q I h => ?_⟩
  refine PySem.W.methodCall_KW (pl := pl) (thn (he.run pins s σ H _ I h) fun u s1 ⟨x, H1, I1, rx, n, C, a, dx, fs, sp, dvs, E, M, hn, ex, ea, l, q⟩ => ?_) ht
  subst ex
  obtain rfl : u = Value.ref a := rx
  obtain ⟨P, w, K, mg, base, lv⟩ := Γ
  obtain ⟨h1, h2, h3, h4, h5, _, hr⟩ := g
  simp only at h1 h2 h3 h4 h5 hr
  subst h1 h2 h3 h4 h5
  obtain ⟨f, fd, ps, ds, F, c, hm, hb, hd⟩ := M.ex
  refine getmeth_ok I1 ea c hm l ?_
  exact PySem.W.callWith_K0 (first := [.ref a]) I1.kIn hm.kp (run_fn (us := [.ref a]) (vs := [.ref a]) F (hr.mono hn) hb hd passE I1 (.cons rfl .nil) q)
/-- C(..) -/
theorem pmk (M : Mkr Γ CX n x C sp dvs) (g : Good (Γ.at l) X) (hn : n + 1 ≤ l) (hg : gvB X.env.scope x = true) (hx : Passes CX X E) (ha : PA X (e :: es) t)
    (he : starEach (e :: es) X.env = (false, eval e X.env) :: starEach es X.env := by rfl) (hpl : (backTo pos (starEach es X.env)).any (·.1) = false := by rfl) :
    PE X (.Call (.Name x p) (e :: es) [] pos) (tMake C sp dvs E t) := by
  obtain ⟨P, w, K, mg, base, lv⟩ := Γ
  obtain ⟨h1, h2, h3, h4, h5, _, hr⟩ := g
  simp only at h1 h2 h3 h4 h5 hr
  subst h1 h2 h3 h4 h5
  obtain ⟨f, fd, ps, ds, F, mk, hm, hb, hd⟩ := M.ex
  exact pe_make mk F (hr.mono hn) (gv_of hg).1 hm hb hd hx ha (gv_of hg).2.1 he hpl
/-! ### own operators -/
theorem own_at {pins : List (Addr × Obj)} {σ : L2.St} {s : Shared} (I : Inv X pins σ H s) (ea : H a = some (.ins C dx fs)) : ∃ od, PySem.W.InstAt s.heap a (PySem.W.instObj C dx) C (some od) := by
  obtain ⟨mA, O, _, _, _, _⟩ := ins_get I.hok ea
  obtain ⟨od, J, _⟩ := O.look
  exact ⟨od, J⟩
/-- x op y of two instances of one class -/
theorem wo_own {op : Operator} (k : Kls Γ C) (M : Mt Γ CX0 n C (PySem.dunder op.info.2) sp []) (hn : n ≤ l) (ha : H a = some (.ins C dx fs)) (hb : H b = some (.ins C dy gs)) (q : sp [.ref a, .ref b] H Q E) : WO (Γ.at l) (binaryOp op) (.ref a) (.ref b) H Q :=
  ⟨fun x y H Q => ∃ a dx fs b dy gs, x = .ref a ∧ y = .ref b ∧ H a = some (.ins C dx fs) ∧ H b = some (.ins C dy gs) ∧ sp [.ref a, .ref b] H Q E, fun X g pins s σ H x y v u Q I rx ry ⟨a, dx, fs, b, dy, gs, ex, ey, ha, hb, q⟩ => by
    subst ex; subst ey
    obtain rfl : v = Value.ref a := rx
    obtain rfl : u = Value.ref b := ry
    obtain ⟨P, w, K, mg, base, lv⟩ := Γ
    obtain ⟨h1, h2, h3, h4, h5, _, hr⟩ := g
    simp only at h1 h2 h3 h4 h5 hr
    subst h1 h2 h3 h4 h5
    obtain ⟨f, fd, ps, ds, F, c, hm, hbi, hd⟩ := M.ex
    obtain ⟨od, J⟩ := own_at I ha
    obtain ⟨od', J'⟩ := own_at I hb
    obtain ⟨m, hF⟩ := I.fr
    refine PySem.W.binop_K hF I.ok.mod.kin J J'.type k.first hm.at_ hm.fn ?_
    refine wpAny_mono (run_fn (us := [.ref a, .ref b]) (vs := [.ref a, .ref b]) F (hr.mono hn) hbi hd passE I (.cons rfl (.cons rfl .nil)) q) (fun w s' z => ?_) fun _ _ x => x
    obtain ⟨z', H', I', rz, qz⟩ := z
    exact SlX.cmpback rz ⟨z', H', I', rz, qz⟩, a, dx, fs, b, dy, gs, rfl, rfl, ha, hb, q⟩
/-- x op y, y a thing of a built-in type -/
theorem wo_ownT {op : Operator} {T : String} {fo ro rc : Option Value} {y : V} (hty : ∀ u, RelV y u → typeOf u = pure (.type T)) (k : Kls Γ C) (M : Mt Γ CX0 n C (PySem.dunder op.info.2) sp []) (hn : n ≤ l) (hr : PySem.W.findIn Γ.K (.ref C) (dunderR op.info.2) = some rc) (hp : rc = none ∨ ∃ g : Addr, rc = some (.ref g))
    (h1 : PySem.W.findIn Γ.K (.type T) (PySem.dunder op.info.2) = some fo) (h2 : PySem.W.findIn Γ.K (.type T) (dunderR op.info.2) = some ro) (hsub : PySem.W.subIn Γ.K (.type T) (.ref C) = some false)
    (ha : H a = some (.ins C dx fs)) (q : sp [.ref a, y] H Q E) : WO (Γ.at l) (binaryOp op) (.ref a) y H Q :=
  ⟨fun x y' H Q => ∃ a dx fs, x = .ref a ∧ y' = y ∧ H a = some (.ins C dx fs) ∧ sp [.ref a, y] H Q E, fun X g pins s σ H x y' v u Q I rx ry ⟨a, dx, fs, ex, ey, ha, q⟩ => by
    subst ex; subst ey
    obtain rfl : v = Value.ref a := rx
    obtain ⟨P, w, K, mg, base, lv⟩ := Γ
    obtain ⟨e1, e2, e3, e4, e5, _, hro⟩ := g
    simp only at e1 e2 e3 e4 e5 hro
    subst e1 e2 e3 e4 e5
    obtain ⟨f, fd, ps, ds, F, c, hm, hbi, hd⟩ := M.ex
    obtain ⟨od, J⟩ := own_at I ha
    obtain ⟨m, hF⟩ := I.fr
    refine PySem.W.ksp_binT hF I.ok.mod.kin J (hty u ry) k.first hm.at_ hm.fn hr hp h1 h2 hsub ?_
    refine wpAny_mono (run_fn (us := [.ref a, u]) (vs := [.ref a, y']) F (hro.mono hn) hbi hd passE I (.cons rfl (.cons ry .nil)) q) (fun w s' z => ?_) fun _ _ x => x
    obtain ⟨z', H', I', rz, qz⟩ := z
    exact SlX.cmpback rz ⟨z', H', I', rz, qz⟩, a, dx, fs, rfl, rfl, ha, q⟩
theorem wu_negO (M : Mt Γ CX0 n C "__neg__" sp []) (hn : n ≤ l) (ha : H a = some (.ins C dx fs)) (q : sp [.ref a] H Q E) : WU (Γ.at l) (unaryOp .USub) (.ref a) H Q :=
  ⟨fun x H Q => ∃ a dx fs, x = .ref a ∧ H a = some (.ins C dx fs) ∧ sp [.ref a] H Q E, fun X g pins s σ H x v Q I rx ⟨a, dx, fs, ex, ha, q⟩ => by
    subst ex
    obtain rfl : v = Value.ref a := rx
    obtain ⟨P, w, K, mg, base, lv⟩ := Γ
    obtain ⟨h1, h2, h3, h4, h5, _, hr⟩ := g
    simp only at h1 h2 h3 h4 h5 hr
    subst h1 h2 h3 h4 h5
    obtain ⟨f, fd, ps, ds, F, c, hm, hbi, hd⟩ := M.ex
    obtain ⟨od, J⟩ := own_at I ha
    obtain ⟨m, hF⟩ := I.fr
    exact PySem.W.ksp_neg hF I.ok.mod.kin J hm.at_ hm.fn (run_fn (us := [.ref a]) (vs := [.ref a]) F (hr.mono hn) hbi hd passE I (.cons rfl .nil) q), a, dx, fs, rfl, ha, q⟩
theorem wu_invO (M : Mt Γ CX0 n C "__invert__" sp []) (hn : n ≤ l) (ha : H a = some (.ins C dx fs)) (q : sp [.ref a] H Q E) : WU (Γ.at l) (unaryOp .Invert) (.ref a) H Q :=
  ⟨fun x H Q => ∃ a dx fs, x = .ref a ∧ H a = some (.ins C dx fs) ∧ sp [.ref a] H Q E, fun X g pins s σ H x v Q I rx ⟨a, dx, fs, ex, ha, q⟩ => by
    subst ex
    obtain rfl : v = Value.ref a := rx
    obtain ⟨P, w, K, mg, base, lv⟩ := Γ
    obtain ⟨h1, h2, h3, h4, h5, _, hr⟩ := g
    simp only at h1 h2 h3 h4 h5 hr
    subst h1 h2 h3 h4 h5
    obtain ⟨f, fd, ps, ds, F, c, hm, hbi, hd⟩ := M.ex
    obtain ⟨od, J⟩ := own_at I ha
    obtain ⟨m, hF⟩ := I.fr
    exact PySem.W.ksp_inv hF I.ok.mod.kin J hm.at_ hm.fn (run_fn (us := [.ref a]) (vs := [.ref a]) F (hr.mono hn) hbi hd passE I (.cons rfl .nil) q), a, dx, fs, rfl, ha, q⟩
/-- x == y, x an instance whose class has __eq__ -/
theorem wo_eqO {y : V} {t : Value} (M : Mt Γ CX0 n C "__eq__" sp []) (hn : n ≤ l) (ty : TyX Γ.K H y t) (nf : PySem.W.notFirst Γ.K C t = true) (ha : H a = some (.ins C dx fs)) (q : sp [.ref a, y] H Q E) : WO (Γ.at l) (compareOp .Eq) (.ref a) y H Q :=
  ⟨fun x y H Q => ∃ a dx fs t, x = .ref a ∧ H a = some (.ins C dx fs) ∧ TyX Γ.K H y t ∧ PySem.W.notFirst Γ.K C t = true ∧ sp [.ref a, y] H Q E, fun X g pins s σ H x y v u Q I rx ry ⟨a, dx, fs, t, ex, ha, ty, nf, q⟩ => by
    subst ex
    obtain rfl : v = Value.ref a := rx
    obtain ⟨P, w, K, mg, base, lv⟩ := Γ
    obtain ⟨h1, h2, h3, h4, h5, _, hr⟩ := g
    simp only at h1 h2 h3 h4 h5 hr
    subst h1 h2 h3 h4 h5
    obtain ⟨f, fd, ps, ds, F, c, hm, hbi, hd⟩ := M.ex
    obtain ⟨od, J⟩ := own_at I ha
    obtain ⟨m, hF⟩ := I.fr
    obtain ⟨P, kx, hP, _⟩ := kit_of I ry ty
    refine PySem.W.cmp_K (op := .Eq) (tb := t) hr.units0 hF I.ok.mod.kin J (kx.ty _ _ I.kIn hP) nf hm.at_ hm.fn ?_
    refine wpAny_mono (run_fn (us := [.ref a, u]) (vs := [.ref a, y]) F (hr.mono hn) hbi hd passE I (.cons rfl (.cons ry .nil)) q) (fun w s' z => ?_) fun _ _ x => x
    obtain ⟨z', H', I', rz, qz⟩ := z
    exact SlX.cmpback rz ⟨z', H', I', rz, qz⟩, a, dx, fs, t, rfl, ha, ty, nf, q⟩
/-- y in x, y not in x -/
theorem wo_inO {y : V} (M : Mt Γ CX0 n C "__contains__" sp []) (hn : n ≤ l) (ha : H a = some (.ins C dx fs)) (q : sp [.ref a, y] H (fun r H' => ∃ b, r = .bl b ∧ Q (.bl b) H') E) : WO (Γ.at l) (compareOp .In) y (.ref a) H Q :=
  ⟨fun y x H Q => ∃ a dx fs, x = .ref a ∧ H a = some (.ins C dx fs) ∧ sp [.ref a, y] H (fun r H' => ∃ b, r = .bl b ∧ Q (.bl b) H') E, fun X g pins s σ H y x u v Q I ry rx ⟨a, dx, fs, ex, ha, q⟩ => by
    subst ex
    obtain rfl : v = Value.ref a := rx
    obtain ⟨P, w, K, mg, base, lv⟩ := Γ
    obtain ⟨h1, h2, h3, h4, h5, _, hr⟩ := g
    simp only at h1 h2 h3 h4 h5 hr
    subst h1 h2 h3 h4 h5
    obtain ⟨f, fd, ps, ds, F, c, hm, hbi, hd⟩ := M.ex
    obtain ⟨od, J⟩ := own_at I ha
    obtain ⟨m, hF⟩ := I.fr
    refine PySem.W.in_K hF I.ok.mod.kin J hm.at_ hm.fn ?_
    refine wpAny_mono (run_fn (us := [.ref a, u]) (vs := [.ref a, y]) F (hr.mono hn) hbi hd passE I (.cons rfl (.cons ry .nil)) q) (fun w s' z => ?_) fun _ _ x => x
    obtain ⟨z', H', I', rz, qz⟩ := z
    obtain ⟨c, rfl, qz⟩ := qz
    obtain rfl : w = Value.bool c := rz
    exact wpAny_truthy_bool ⟨.bl c, H', I', rfl, qz⟩, a, dx, fs, rfl, ha, q⟩
theorem wo_niO {y : V} (M : Mt Γ CX0 n C "__contains__" sp []) (hn : n ≤ l) (ha : H a = some (.ins C dx fs)) (q : sp [.ref a, y] H (fun r H' => ∃ b, r = .bl b ∧ Q (.bl (!b)) H') E) : WO (Γ.at l) (compareOp .NotIn) y (.ref a) H Q :=
  ⟨fun y x H Q => ∃ a dx fs, x = .ref a ∧ H a = some (.ins C dx fs) ∧ sp [.ref a, y] H (fun r H' => ∃ b, r = .bl b ∧ Q (.bl (!b)) H') E, fun X g pins s σ H y x u v Q I ry rx ⟨a, dx, fs, ex, ha, q⟩ => by
    subst ex
    obtain rfl : v = Value.ref a := rx
    obtain ⟨P, w, K, mg, base, lv⟩ := Γ
    obtain ⟨h1, h2, h3, h4, h5, _, hr⟩ := g
    simp only at h1 h2 h3 h4 h5 hr
    subst h1 h2 h3 h4 h5
    obtain ⟨f, fd, ps, ds, F, c, hm, hbi, hd⟩ := M.ex
    obtain ⟨od, J⟩ := own_at I ha
    obtain ⟨m, hF⟩ := I.fr
    refine PySem.W.notIn_K hF I.ok.mod.kin J hm.at_ hm.fn ?_
    refine wpAny_mono (run_fn (us := [.ref a, u]) (vs := [.ref a, y]) F (hr.mono hn) hbi hd passE I (.cons rfl (.cons ry .nil)) q) (fun w s' z => ?_) fun _ _ x => x
    obtain ⟨z', H', I', rz, qz⟩ := z
    obtain ⟨c, rfl, qz⟩ := qz
    obtain rfl : w = Value.bool c := rz
    exact wpAny_truthy_bool ⟨.bl (!c), H', I', rfl, qz⟩, a, dx, fs, rfl, ha, q⟩
end
end G
namespace PySem.W
open PySem PySem.Calls PyProof.Rows
section
variable {prog : Program} {w : World} {A : Around} {E : Value → Shared → Prop} {s : Shared} {K : Frag} {x C f : Addr} {ox : Obj} {od : Option Obj} {b tb : Value}
theorem one_slot : Slot "object" "__ne__" "object.__ne__" :=
  Slot.of (T := "object") (name := "__ne__") (owner := "object") (n := "__ne__") (by rw [typeLookup_type, builtinLookup_eq_fast]; kernel_rfl) (by decide +kernel) (by decide +kernel) (by decide +kernel)
    (by first | exact .inl (by decide +kernel) | exact .inr (by decide +kernel)) (by rw [isSubtype_type]; kernel_rfl)
theorem ifBound_B {M : Model} {name : Str} {id : String} {args : List Value} {Q : Option Value → Shared → Prop} (X : K.In s.heap) (I : InstAt s.heap x ox C od) (hs : findIn K (.ref C) name = some (some (.builtin id)))
    (hb : ∀ self, bindSpecial (.builtin id) self = pure (.builtin id, [self])) (h : wpAny M A (call (.builtin id) (.ref x :: args)) (fun v => Q (some v)) E s) : wpAny M A (callSpecialIfBound? (.ref x) name args) Q E s := by
  simp only [callSpecialIfBound?, bindSpecialIfBound?]
  refine wpAny_holding (wpAny_bind (wpAny_bind (wpAny_bind (I.type.here ((looks_findIn X hs).here ?_)))))
  refine wpAny_bind (wpAny_askSetting (wpAny_ite ?_))
  have fin : wpAny M A (call (.builtin id) ([.ref x] ++ args) >>= fun v => pure (some v)) Q E s := wpAny_bind (wpAny_mono h (fun v s' h' => wpAny_pure h') fun _ _ h' => h')
  split
  · exact wpAny_bind ((Looks.of_pure (hb _)).here (wpAny_pure (by exact fin)))
  · exact wpAny_tryCatch (wpAny_bind ((Looks.of_pure (hb _)).here (wpAny_pure (by exact fin))))
open Builtin in
theorem ne_call {Q : Value → Shared → Prop} (hu : A.units + 1 < cLine) (X : K.In s.heap) (I : InstAt s.heap x ox C od) (hm : mroIn K C (.type "object") = some true)
    (he : findIn K (.ref C) "__eq__" = some (some (.ref f))) (hf : isFn K (.ref f) = true)
    (h : wpAny (model prog w) A.in1 (call (.ref f) [.ref x, b]) (fun r s' => ∃ c, r = .bool c ∧ Q (.bool (!c)) s') E s) : wpAny (model prog w) A (call (.builtin "object.__ne__") [.ref x, b]) Q E s := by
  refine wpAny_call (codeAny_call_builtin one_slot.plain PySem.F.cmpEntry_ne (check_slot (i := "object.__ne__") (owner := "object") (n := "__ne__") PySem.F.cmpKind_ne PySem.F.cmpSplit_ne (I.type.andThen (looks_mroIn X hm)) (PySem.F.cmpArgs_ne _ _) ?_))
  unfold Builtin.«object.__ne__»
  refine wpAny_bind (m := slotArgs "__ne__" 1 _) (wpAny_pure ?_)
  refine wpAny_bind (m := cRoomFor _ _) (wpAny_cRoomFor (by exact hu) ?_)
  refine wpAny_bind (m := callSpecialIfBound? (.ref x) (Str.ofString "__eq__") _) (ifBound_K X I he hf (wpAny_mono h (fun r s' hq => ?_) fun _ _ y => y))
  obtain ⟨c, rfl, hq⟩ := hq
  refine wpAny_bind (m := truthy (.bool c)) (wpAny_truthy_bool ?_)
  exact wpAny_pure hq
theorem ne_K {Q : Value → Shared → Prop} (hu : A.units + 1 < cLine) (X : K.In s.heap) (I : InstAt s.heap x ox C od) (hb : Looks (model prog w) s.heap (typeOf b) tb) (hn : notFirst K C tb = true) (hm : mroIn K C (.type "object") = some true)
    (hs : findIn K (.ref C) "__ne__" = some (some (.builtin "object.__ne__"))) (he : findIn K (.ref C) "__eq__" = some (some (.ref f))) (hf : isFn K (.ref f) = true)
    (h : wpAny (model prog w) A.in1 (call (.ref f) [.ref x, b]) (fun r s' => ∃ c, r = .bool c ∧ Q (.bool (!c)) s') E s) : wpAny (model prog w) A (richCompare .NotEq (.ref x) b) Q E s := by
  have hu0 : A.units < cLine := Nat.lt_of_succ_lt hu
  have one : wpAny (model prog w) A (tryCompare (.ref x) (cmpInfo .NotEq).2.1 b) (fun r s' => ∃ v, r = some v ∧ Q v s') E s := by
    unfold tryCompare
    refine wpAny_bind (ifBound_B X I hs one_slot.bind (wpAny_mono (ne_call hu X I hm he hf (Q := fun v s' => ∃ c, v = .bool c ∧ Q v s') (wpAny_mono h (fun r s' ⟨c, e, q⟩ => ⟨c, e, _, rfl, q⟩) fun _ _ y => y)) (fun v s' hv => ?_) fun _ _ e => e))
    obtain ⟨c, rfl, hq⟩ := hv
    exact wpAny_pure ⟨_, rfl, hq⟩
  unfold richCompare
  simp only [oneThing_ref]
  refine wpAny_holding (wpAny_bind (wpAny_cRoomFor hu0 ?_))
  refine wpAny_bind (I.type.here (wpAny_bind (hb.here ?_)))
  split
  · rename_i q
    have e : subIn K tb (.ref C) = some false := by
      rcases Bool.or_eq_true_iff.mp hn with e | e
      · rw [beq_iff_eq.mp e] at q; simp at q
      · exact beq_iff_eq.mp e
    refine wpAny_bind ((looks_subIn X e).here ?_)
    simp only [Bool.false_eq_true, if_false]
    refine wpAny_bind (wpAny_mono one (fun r s' z => ?_) fun _ _ e => e)
    obtain ⟨v, rfl, hq⟩ := z
    exact wpAny_pure hq
  · refine wpAny_bind (wpAny_pure ?_)
    simp only [Bool.false_eq_true, if_false]
    refine wpAny_bind (wpAny_mono one (fun r s' z => ?_) fun _ _ e => e)
    obtain ⟨v, rfl, hq⟩ := z
    exact wpAny_pure hq
/-- no __iop__ in the class: the binary one -/
theorem noInp {M : Model} {h : Heap} {nm : String} {add : Bool} {cd : ClassData} (X : K.In h) (hc : clsIn K C = some cd) (hl : ∀ c ∈ cd.mro, findIn K c (dunderI nm) = some none) : Looks M h (fillsInplaceSlot (.ref C) nm add) false := by
  unfold fillsInplaceSlot
  have key : ∀ l : List Value, (∀ c ∈ l, findIn K c (dunderI nm) = some none) → Looks M h (l.anyM fun c => do
      let some x ← typeLookup c (dunderI nm) | return false
      if let .type _ := c then return !isSeqSlot (some x)
      if !ownNameWrapper x (dunderI nm) then return true
      if !(← inheritsSeqSlot c (dunderI nm)) then return true
      if add then return (← seqSlot? c (dunderI nm)).isSome
      return false) false := by
    intro l
    induction l with
    | nil => intro _; exact .now
    | cons a r ih =>
      intro hl
      rw [List.anyM_cons]
      refine Looks.andThen (a := false) ?_ ?_
      · exact (looks_findIn X (hl a (.head _))).andThen .now
      · exact ih fun c hc => hl c (.tail _ hc)
  exact ((looks_clsIn X hc).andThen (f := fun cd => pure cd.mro) .now).andThen (key _ hl)
theorem bin1_K {op : Operator} {Q : Value → Shared → Prop} (X : K.In s.heap) (I : InstAt s.heap x ox C od) (hb : Looks (model prog w) s.heap (typeOf b) (.ref C)) (hc : selfFirst K C = true)
    (hs : findIn K (.ref C) (PySem.dunder op.info.2) = some (some (.ref f))) (hf : isFn K (.ref f) = true)
    (h : wpAny (model prog w) A (call (.ref f) [.ref x, b]) (CmpBack Q) E s) : wpAny (model prog w) A (binaryOp1 op.info.2 (.ref x) b) (fun r s' => ∃ v, r = some v ∧ Q v s') E s := by
  obtain ⟨cd, hcd, hm⟩ := any_some hc
  obtain ⟨rest, hm⟩ : ∃ rest, cd.mro = .ref C :: rest := by
    cases q : cd.mro with
    | nil => rw [q] at hm; cases hm
    | cons a r => rw [q] at hm; exact ⟨r, by rw [List.head?_cons] at hm; cases (beq_iff_eq.mp hm); rfl⟩
  unfold binaryOp1
  refine wpAny_bind (I.type.here (wpAny_bind (hb.here (wpAny_bind ((fills_K X hcd hm hs).here ?_)))))
  simp only [beq_self_eq_true, if_true]
  refine wpAny_bind (wpAny_pure ?_)
  simp only [Bool.and_false, Bool.false_eq_true, if_false, Bool.false_and]
  refine wpAny_bind (wpAny_pure ?_)
  simp only [Bool.false_eq_true, if_false]
  refine wpAny_bind (m := tryMethod (.ref x) _ b) ?_
  unfold tryMethod
  refine wpAny_bind (special_fn X I hs (beq_iff_eq.mp hf) (wpAny_mono h (fun v s' hv => ?_) fun _ _ e => e))
  cases v <;> first | exact hv.elim | exact wpAny_pure (wpAny_pure ⟨_, rfl, hv⟩)
theorem inp_K {op : Operator} {cd : ClassData} {Q : Value → Shared → Prop} (X : K.In s.heap) (I : InstAt s.heap x ox C od) (hb : Looks (model prog w) s.heap (typeOf b) (.ref C)) (hc : selfFirst K C = true)
    (hcl : clsIn K C = some cd) (hl : ∀ c ∈ cd.mro, findIn K c (dunderI op.info.2) = some none)
    (hs : findIn K (.ref C) (PySem.dunder op.info.2) = some (some (.ref f))) (hf : isFn K (.ref f) = true)
    (h : wpAny (model prog w) A (call (.ref f) [.ref x, b]) (CmpBack Q) E s) : wpAny (model prog w) A (inplaceOp op (.ref x) b) Q E s := by
  unfold inplaceOp
  refine wpAny_holding (wpAny_bind (I.type.here (wpAny_bind ((noInp X hcl hl).here ?_))))
  simp only [Bool.false_eq_true, if_false]
  refine wpAny_bind (m := binaryOp1 op.info.2 (.ref x) b) (wpAny_mono (bin1_K X I hb hc hs hf h) (fun r s' z => ?_) fun _ _ e => e)
  obtain ⟨v, rfl, hq⟩ := z
  exact wpAny_pure hq
end
end PySem.W
namespace G
open PySem PySem.Spec PyProof.Rows L2
section
variable {Γ : Gm} {X : Cx} {a b C dx dy : Addr} {fs gs : List (Str × V)} {H : Hp} {Q : VK} {n l : Nat} {sp : Sp} {E : XK}
theorem run_in1 {pins : List (Addr × Obj)} {σ : L2.St} {H : Hp} {s : Shared} {Q : VK} {CX : CXT} {k : Nat} {f : Addr} {fd : FuncData} {ps : List Str} {ds us : List Value} {vs dvs : List V} (F : FnOk X.prog X.w X.K X.mg X.base CX k f fd ps sp) (hr : Room (k + 1) X.A) (hb : L2.Binds X.K fd ps ds) (hd : Vals dvs ds) (hx : Passes CX X E)
    (I : Inv X pins σ H s) (r : Vals vs us) (h : sp (vs ++ dvs) H Q E) : wpAny (model X.prog X.w) X.A.in1 (call (.ref f) us) (EP X pins σ Q) X.xe s := by
  have r2 : Vals (vs ++ dvs) (us ++ ds) := r.append hd
  have hl : (us ++ ds).length = ps.length := by rw [← r2.length]; exact F.len _ _ _ _ h
  refine wpAny_call (codeAny_mono (F.run X.A.in1 X.stack s H ⟨us, []⟩ (us ++ ds) (vs ++ dvs) Q E hr.in1 I.env0.in1 (hb s us I.kIn hl) r2 h) fun r s' hq => ?_)
  cases r with
  | error e => exact hx pins σ H s e s' I hq
  | ok fl =>
    cases fl with
    | ret u => exact I.after hq
    | next => exact False.elim hq
    | brk => exact False.elim hq
    | cont => exact False.elim hq
/-- x != y by the class's __eq__ -/
theorem wo_neO {y : V} {t : Value} (k : Kls Γ C) (qn : PySem.W.findIn Γ.K (.ref C) "__ne__" = some (some (.builtin "object.__ne__"))) (M : Mt Γ CX0 n C "__eq__" sp []) (hn : n + 1 ≤ l) (ty : TyX Γ.K H y t) (nf : PySem.W.notFirst Γ.K C t = true) (ha : H a = some (.ins C dx fs))
    (q : sp [.ref a, y] H (fun r H' => ∃ b, r = .bl b ∧ Q (.bl (!b)) H') E) : WO (Γ.at l) (compareOp .NotEq) (.ref a) y H Q :=
  ⟨fun x y H Q => ∃ a dx fs t, x = .ref a ∧ H a = some (.ins C dx fs) ∧ TyX Γ.K H y t ∧ PySem.W.notFirst Γ.K C t = true ∧ sp [.ref a, y] H (fun r H' => ∃ b, r = .bl b ∧ Q (.bl (!b)) H') E, fun X g pins s σ H x y v u Q I rx ry ⟨a, dx, fs, t, ex, ha, ty, nf, q⟩ => by
    subst ex
    obtain rfl : v = Value.ref a := rx
    obtain ⟨P, w, K, mg, base, lv⟩ := Γ
    obtain ⟨h1, h2, h3, h4, h5, _, hr⟩ := g
    simp only at h1 h2 h3 h4 h5 hr
    subst h1 h2 h3 h4 h5
    obtain ⟨f, fd, ps, ds, F, c, hm, hbi, hd⟩ := M.ex
    obtain ⟨od, J⟩ := own_at I ha
    obtain ⟨P, kx, hP, _⟩ := kit_of I ry ty
    refine PySem.W.ne_K (tb := t) (hu_of (hr.mono (Nat.zero_le _))) I.kIn J (kx.ty _ _ I.kIn hP) nf k.cm qn hm.at_ hm.fn ?_
    refine wpAny_mono (run_in1 (us := [.ref a, u]) (vs := [.ref a, y]) F (hr.mono hn) hbi hd passE I (.cons rfl (.cons ry .nil)) q) (fun w s' z => ?_) fun _ _ x => x
    obtain ⟨z', H', I', rz, qz⟩ := z
    obtain ⟨c, rfl, qz⟩ := qz
    obtain rfl : w = Value.bool c := rz
    exact ⟨c, rfl, .bl (!c), H', I', rfl, qz⟩, a, dx, fs, t, rfl, ha, ty, nf, q⟩
/-- x op= y where the class has op alone -/
theorem wi_own {op : Operator} {cd : ClassData} (k : Kls Γ C) (hcl : PySem.W.clsIn Γ.K C = some cd) (hl : ∀ c ∈ cd.mro, PySem.W.findIn Γ.K c (dunderI op.info.2) = some none) (M : Mt Γ CX0 n C (PySem.dunder op.info.2) sp []) (hn : n ≤ l) (ha : H a = some (.ins C dx fs)) (hb : H b = some (.ins C dy gs)) (q : sp [.ref a, .ref b] H Q E) : WI (Γ.at l) op (.ref a) (.ref b) H Q :=
  ⟨fun x y H Q => ∃ a dx fs b dy gs, x = .ref a ∧ y = .ref b ∧ H a = some (.ins C dx fs) ∧ H b = some (.ins C dy gs) ∧ sp [.ref a, .ref b] H Q E, fun X g pins s σ H x y v u Q I rx ry ⟨a, dx, fs, b, dy, gs, ex, ey, ha, hb, q⟩ => by
    subst ex; subst ey
    obtain rfl : v = Value.ref a := rx
    obtain rfl : u = Value.ref b := ry
    obtain ⟨P, w, K, mg, base, lv⟩ := Γ
    obtain ⟨h1, h2, h3, h4, h5, _, hr⟩ := g
    simp only at h1 h2 h3 h4 h5 hr
    subst h1 h2 h3 h4 h5
    obtain ⟨f, fd, ps, ds, F, c, hm, hbi, hd⟩ := M.ex
    obtain ⟨od, J⟩ := own_at I ha
    obtain ⟨od', J'⟩ := own_at I hb
    refine PySem.W.inp_K I.kIn J J'.type k.first hcl hl hm.at_ hm.fn ?_
    refine wpAny_mono (run_fn (us := [.ref a, .ref b]) (vs := [.ref a, .ref b]) F (hr.mono hn) hbi hd passE I (.cons rfl (.cons rfl .nil)) q) (fun w s' z => ?_) fun _ _ x => x
    obtain ⟨z', H', I', rz, qz⟩ := z
    exact SlX.cmpback rz ⟨z', H', I', rz, qz⟩, a, dx, fs, b, dy, gs, rfl, rfl, ha, hb, q⟩
end
end G
/-! sets of texts: set(list), sorted(set); the library has them for ints and for tuples of ints -/
namespace L2
open PySem PySem.Spec PyProof.Rows
def keyS (e : Int × Value) : Str := match e.2 with
  | .str z _ => z
  | _ => Str.empty
def GoodS (P : Program) (w : World) (e : Int × Value) : Prop := ∃ z tk, e.2 = Value.str z tk ∧ e.1 = (strKind P w).hash z
def SetS (P : Program) (w : World) (h : Heap) (a : Addr) (L : List Str) : Prop :=
  ∃ o es ep t, h.get? a = some o ∧ o.ExactSet ∧ o.data = .set es ep t ∧ (∀ e ∈ es.toList, GoodS P w e) ∧ (es.toList.map keyS).Perm L ∧ L.Nodup ∧
    es.size < scanBound ∧ t.fits es.size = true ∧ Ris t.place.toList ∧ (w.params.followText "set-order" = true ∨ t.led = true)
section
variable {P : Program} {w : World} {h h' : Heap} {a : Addr} {L L' : List Str}
theorem SetS.at (R : SetS P w h a L) (k : ∀ o, h.get? a = some o → h'.get? a = some o) : SetS P w h' a L := by
  obtain ⟨o, es, ep, t, ho, r⟩ := R
  exact ⟨o, es, ep, t, k o ho, r⟩
theorem goodS_is {e : Int × Value} (g : GoodS P w e) (k : Str) : (strKind P w).is k e.2 = true ↔ keyS e = k := by
  obtain ⟨z, tk, h1, _⟩ := g
  unfold keyS
  rw [h1]
  constructor
  · intro q
    exact (strKind P w).inj _ _ _ (strKind_is P w z tk) q
  · intro q
    subst q
    exact strKind_is P w z tk
theorem goodS_elems {l : List (Int × Value)} (g : ∀ e ∈ l, GoodS P w e) : ElemsOf (strKind P w) l := fun e he => by
  obtain ⟨z, tk, h1, h2⟩ := g e he
  exact ⟨⟨z, by rw [h1]; exact strKind_is P w z tk, h2⟩, by rw [h1] <;> rfl⟩
end
section
variable {P : Program} {w : World} {A : Around} {E : Value → Shared → Prop} {s : Shared} {a : Addr} {L : List Str}
theorem setS_tail {g : Bool → Sem Unit} (hg : ∀ (b : Bool) (s₁ : Shared) (Q' : Unit → Shared → Prop), Q' () s₁ → wpAny (model P w) A (g b) Q' E s₁)
    {o : Obj} {es : Array (Int × Value)} {ep : Nat} {t : SetTable} (ho : s.heap.get? a = some o) (hex : o.ExactSet) (hd : o.data = .set es ep t)
    {es1 : Array (Int × Value)} {t2 : SetTable} (g1 : ∀ e ∈ es1.toList, GoodS P w e) (p1 : (es1.toList.map keyS).Perm L) (nd : L.Nodup)
    (hb1 : es1.size < scanBound) (hf2 : t2.fits es1.size = true) (hr : Ris t2.place.toList) (hl : w.params.followText "set-order" = true ∨ t2.led = true) {wasDummy : Bool} {R : Option Bool → Shared → Prop}
    (hR : ∀ h', Heap.SameBut a s.heap h' → SetS P w h' a L → R (some true) { s with heap := h' }) :
    wpAny (model P w) A (do
        storeSet a es1 t2
        if (!wasDummy && t2.tooFull) = true then do
            g (relayAll t2 es1 (SetTable.grown es1.size)).2.2
            storeSet a (relayAll t2 es1 (SetTable.grown es1.size)).1 (relayAll t2 es1 (SetTable.grown es1.size)).2.1
            pure (some true)
          else pure (some true)) R E s := by
  refine wpAny_bind (wpAny_storeSet_of ho hd ?_ (fits_of_scanBound hb1))
  have ho1 := store_at (es' := es1) (t' := t2) ho hd
  have sb1 := Heap.SameBut.update s.heap a (Obj.putSet es1 t2)
  split
  · have pm := relayAll_perm t2 es1 (SetTable.grown es1.size)
    have hf3 := relayAll_fits t2 es1 (SetTable.grown es1.size)
    have hr3 := relayAll_ris t2 es1 (SetTable.grown es1.size)
    have hl3 := relayAll_led t2 es1 (SetTable.grown es1.size)
    generalize relayAll t2 es1 (SetTable.grown es1.size) = Z at pm hf3 hr3 hl3 ⊢
    obtain ⟨es2, t3, gave⟩ := Z
    dsimp only at pm hf3 hr3 hl3 ⊢
    have hsz : es2.size = es1.size := by rw [← Array.length_toList, pm.length_eq, Array.length_toList]
    have hb2 : es2.size < scanBound := by rw [hsz]; exact hb1
    refine wpAny_bind (hg _ _ _ ?_)
    refine wpAny_bind (wpAny_storeSet_of ho1 rfl ?_ (fits_of_scanBound hb2))
    have ho2 := store_at (es' := es2) (t' := t3) ho1 rfl
    refine wpAny_pure (hR _ (sb1.trans (Heap.SameBut.update _ a _)) ?_)
    exact ⟨_, es2, _, t3, ho2, hex, rfl, fun e he => g1 e (pm.mem_iff.mp he), (pm.map keyS).trans p1, nd, hb2, hf3, hr3, hl.imp id fun z => by rw [hl3]; exact z⟩
  · exact wpAny_pure (hR _ sb1 ⟨_, es1, _, t2, ho1, hex, rfl, g1, p1, nd, hb1, hf2, hr, hl⟩)
theorem setS_add {k : Str} {tk : Tok} {Q : Bool → Shared → Prop} (R : SetS P w s.heap a L) (room : L.length + 1 < scanBound)
    (hQ : ∀ b h', Heap.SameBut a s.heap h' → SetS P w h' a (if k ∈ L then L else k :: L) → Q b { s with heap := h' }) :
    wpAny (model P w) A (setAddHashed a (.str k tk) ((strKind P w).hash k)) Q E s := by
  obtain ⟨o, es, ep, t, ho, hex, hd, g, pm0, nd, hb, hf, hr, hl⟩ := R
  have hkey : (strKind P w).is k (.str k tk) = true := strKind_is P w k tk
  have hsc : (Value.str k tk).scannable = true := rfl
  have hel : ElemsOf (strKind P w) es.toList := goodS_elems g
  unfold setAddHashed setAddHashedIn
  refine wpAny_holding (wpAny_bind (wpAny_setState_of ho hd hf ?_))
  dsimp only
  rw [byScan_of hsc hb hel]
  simp only [↓reduceIte]
  unfold setAddByScan
  refine wpAny_bind ?_
  refine wpAny_bind (wpAny_rule ?_)
  refine wpAny_bind (wpAny_setScan_of hkey ho hd hf hel ?_)
  cases hfi : List.findIdx? (fun e => (strKind P w).is k e.2) es.toList with
  | some j =>
    dsimp only
    obtain ⟨hj, pj, _⟩ := List.findIdx?_eq_some_iff_getElem.mp hfi
    have hk : k ∈ L := pm0.mem_iff.mp (List.mem_map.mpr ⟨_, List.getElem_mem hj, (goodS_is (g _ (List.getElem_mem hj)) k).mp pj⟩)
    refine wpAny_pure (wpAny_pure ?_)
    have q := hQ false s.heap (Heap.SameBut.refl a s.heap) (by rw [if_pos hk]; exact ⟨o, es, ep, t, ho, hex, hd, g, pm0, nd, hb, hf, hr, hl⟩)
    exact q
  | none =>
    dsimp only
    have hnk : k ∉ L := fun z => by
      obtain ⟨e, he, q⟩ := List.mem_map.mp (pm0.mem_iff.mpr z)
      have c := List.findIdx?_eq_none_iff.mp hfi e he
      rw [(goodS_is (g e he) k).mpr q] at c
      cases c
    have hgw : ∀ (b : Bool) {s₁ : Shared} {Q' : Unit → Shared → Prop}, Q' () s₁ → wpAny (model P w) A (match b with | true => rule "set.scan.the-table-gave-way" | false => pure ()) Q' E s₁ :=
      fun b s₁ Q' q => by cases b <;> first | exact wpAny_pure q | exact wpAny_rule q
    have pm := layNew_perm t es ((strKind P w).hash k) (.str k tk)
    have hf1 := layNew_fits t es ((strKind P w).hash k) (.str k tk)
    have hr1 := layNew_ris t es ((strKind P w).hash k) (.str k tk) hr
    have hl1 := layNew_led t es ((strKind P w).hash k) (.str k tk)
    generalize layNew t es ((strKind P w).hash k) (.str k tk) = Z at pm hf1 hr1 hl1 ⊢
    obtain ⟨es1, t1, wasDummy, gave⟩ := Z
    dsimp only at pm hf1 hr1 hl1 ⊢
    rw [Array.toList_push] at pm
    have pc : es1.toList.Perm (((strKind P w).hash k, Value.str k tk) :: es.toList) := pm.trans (List.perm_append_singleton _ _)
    have pk : (es1.toList.map keyS).Perm (k :: L) := (pc.map keyS).trans (List.Perm.cons k pm0)
    have g1 : ∀ e ∈ es1.toList, GoodS P w e := fun e he => by
      rcases List.mem_cons.mp (pc.mem_iff.mp he) with z | z
      · rw [z]; exact ⟨k, tk, rfl, rfl⟩
      · exact g e z
    have nd1 : (k :: L).Nodup := List.nodup_cons.mpr ⟨hnk, nd⟩
    have hsz : es1.size = L.length + 1 := by
      have := pk.length_eq
      rw [List.length_map, Array.length_toList, List.length_cons] at this
      exact this
    have hb1 : es1.size < scanBound := by rw [hsz]; exact room
    have hled : w.params.followText "set-order" = true ∨ t1.led = true := hl.imp id fun z => by rw [hl1]; exact z
    have fin : ∀ h', Heap.SameBut a s.heap h' → SetS P w h' a (k :: L) → Q true { s with heap := h' } := fun h' sb r => by
      have q := hQ true h' sb
      rw [if_neg hnk] at q
      exact q r
    refine wpAny_bind (hgw _ ?_)
    split
    · refine wpAny_bind ?_
      rw [hashByValue_scannable 8 hsc]
      refine wpAny_pure ?_
      refine setS_tail ?_ ho hex hd g1 pk nd1 hb1 ?_ ?_ ?_ ?_
      · intro b s₁ Q' q; cases b <;> first | exact wpAny_pure q | exact wpAny_rule q
      · first | (split <;> first | exact hf1 | exact SetTable.fits_plain_off hf1) | exact hf1
      · first | (split <;> exact hr1) | exact hr1
      · first | (split <;> exact hled) | exact hled
      · intro h' sb r; dsimp only; exact wpAny_pure (fin h' sb r)
    · refine wpAny_bind (wpAny_pure ?_)
      simp only [↓reduceIte]
      refine setS_tail ?_ ho hex hd g1 pk nd1 hb1 hf1 hr1 hled ?_
      · intro b s₁ Q' q; cases b <;> first | exact wpAny_pure q | exact wpAny_rule q
      · intro h' sb r; dsimp only; exact wpAny_pure (fin h' sb r)
/-- the texts met so far, each once -/
def metS : List Str → List Str
  | [] => []
  | z :: r => if z ∈ metS r then metS r else z :: metS r
theorem metS_mem {z : Str} : ∀ {l : List Str}, z ∈ metS l ↔ z ∈ l
  | [] => Iff.rfl
  | y :: r => by
    unfold metS
    split
    · rename_i h
      rw [metS_mem, List.mem_cons]
      exact ⟨.inr, fun q => q.elim (fun e => by rw [e]; exact metS_mem.mp h) id⟩
    · rw [List.mem_cons, List.mem_cons, metS_mem]
theorem metS_nodup : ∀ {l : List Str}, (metS l).Nodup
  | [] => List.nodup_nil
  | y :: r => by
    unfold metS
    split
    · exact metS_nodup
    · rename_i h
      exact List.nodup_cons.mpr ⟨h, metS_nodup⟩
theorem metS_len : ∀ {l : List Str}, (metS l).length ≤ l.length
  | [] => Nat.le_refl _
  | y :: r => by
    unfold metS
    have := metS_len (l := r)
    split
    · exact Nat.le_succ_of_le this
    · exact Nat.succ_le_succ this
theorem setS_update {I : Addr} {fp wr : List Addr} {G : Array GenState → Array GenState → Prop} {n : Nat} {Pv : Nat → Value → Prop} {St : Nat → Shared → Prop} {R : Result → Shared → Prop}
    (W : WalksS P w A.in1 I fp wr G n Pv St) (S : Addr) (hSf : S ∉ fp) (ns : List Str) (hn : n = ns.length) (hb : ns.length + 1 < scanBound) (hval : ∀ i v, Pv i v → ∃ k t, ns[i]? = some k ∧ v = .str k t) :
    ∀ (k i : Nat) (s : Shared), n - i = k → i ≤ n → St i s → SetS P w s.heap S (metS (ns.take i).reverse) →
      (∀ s', Moved (S :: wr) G s s' → SetS P w s'.heap S (metS ns.reverse) → R (.ok (.ret .none)) s') →
      codeAny (model P w) A (.builtin "set.update.loop" ⟨[.ref S, .ref I], []⟩) R s := by
  have hSw : S ∉ wr := fun h => hSf (W.sub _ h)
  have hsub : ∀ b ∈ wr, b ∈ S :: wr := fun b hb => List.mem_cons_of_mem _ hb
  intro k
  induction k with
  | zero =>
    intro i s hk' hi hst hS hR
    have hin : i = n := by omega
    subst hin
    refine codeAny_builtin F.entry_set_update_loop ?_
    rw [Around.under_plainId F.plain_set_update_loop _]
    show wpAny _ A.in1 (pyNext (.ref I) >>= _) _ _ s
    refine wpAny_bind (W.done s _ _ hst fun s' hm => ?_)
    show wpAny _ A.in1 (ret Value.none) _ _ s'
    have e : ns.take i = ns := List.take_of_length_le (by omega)
    rw [e] at hS
    exact wpAny_pure (hR s' (hm.mono hsub) (hS.at fun o e => hm.heap S o hSw e))
  | succ k ih =>
    intro i s hk' hi hst hS hR
    have hlt : i < n := by omega
    refine codeAny_builtin F.entry_set_update_loop ?_
    rw [Around.under_plainId F.plain_set_update_loop _]
    show wpAny _ A.in1 (pyNext (.ref I) >>= _) _ _ s
    refine wpAny_bind (W.item i s _ _ hlt hst fun v s' hP hst' hm => ?_)
    obtain ⟨z, t, hz, rfl⟩ := hval i v hP
    have hS' : SetS P w s'.heap S (metS (ns.take i).reverse) := hS.at fun o e => hm.heap S o hSw e
    show wpAny _ A.in1 (holding [Value.str z t] (setAdd S (.str z t)) >>= _) _ _ s'
    refine wpAny_bind (wpAny_holding ?_)
    unfold setAdd
    refine wpAny_holding ?_
    refine wpAny_bind ((strKind P w).pyHash (k := z) (strKind_is _ _ _ _) ?_)
    refine setS_add (s := { s' with toks := s'.toks + 1 }) hS' (by have := metS_len (l := (ns.take i).reverse); rw [List.length_reverse, List.length_take] at this; omega) fun b h' hsb hS2 => ?_
    have hS3 : SetS P w h' S (metS (ns.take (i + 1)).reverse) := by
      rw [List.take_add_one, hz]
      simp only [Option.toList_some, List.reverse_append, List.reverse_cons, List.reverse_nil, List.nil_append, List.singleton_append]
      exact hS2
    refine wpAny_pure ⟨plainId_quiet F.plain_set_update_loop _, ih (i + 1) _ (by omega) hlt (W.frame _ s' _ _ hst' (Nat.le_succ _) fun b hb o e => ?_) hS3 fun s'' hm'' hS'' => ?_⟩
    · rw [hsb.2 b (fun h : b = S => hSf (by rw [← h]; exact hb))]; exact e
    · refine hR s'' (Moved.trans W.gtrans ((hm.mono hsub).then_heap (Nat.le_succ _) fun b o hb e => ?_) hm'') hS''
      rw [hsb.2 b (fun h : b = S => hb (by rw [h]; exact List.mem_cons_self))]; exact e
theorem setS_fresh {h : Heap} {a : Addr} (ho : h.get? a = some { cls := .type "set", dict := none, data := .set #[] 0 (.fresh 0 0 (!w.params.followText "set-order")) }) : SetS P w h a [] :=
  ⟨_, #[], 0, _, ho, ⟨rfl, rfl, rfl⟩, rfl, (fun e he => by simp at he), List.Perm.refl _, List.nodup_nil, (by decide), (by rfl), List.Pairwise.nil, by
    show _ ∨ (!w.params.followText "set-order") = true
    cases w.params.followText "set-order"
    · exact .inr rfl
    · exact .inl rfl⟩
end
end L2
namespace L2
open PySem PySem.Spec PyProof.Rows
section
variable {P : Program} {w : World} {A : Around} {E : Value → Shared → Prop} {s : Shared}
theorem call_set_strs {l : Addr} {items : Array Value} (ns : List Str) {Q : Value → Shared → Prop} (hh : A.handled = none) (hl : s.heap.IsList l items) (hit : StrsAre items.toList ns) (hb : ns.length + 1 < scanBound)
    (h : ∀ (h' : Heap) (tk : Nat), SetS P w h' s.heap.objs.size (metS ns.reverse) → (∀ b o, s.heap.get? b = some o → h'.get? b = some o) → Q (.ref s.heap.objs.size) { s with heap := h', toks := tk }) :
    wpAny (model P w) A (call (.type "set") [.ref l]) Q E s := by
  have hisz : items.size = ns.length := by
    have q := hit.length
    rw [Array.length_toList] at q
    exact q
  obtain ⟨c, tl, hmro⟩ := F.called_set.mro
  have hmade := F.called_set.made
  have hsub := F.called_set.sub
  refine wpAny_call (codeAny_of_tree ?_)
  show wpAny _ _ (callAny (.type "set") _) _ _ _
  refine wpAny_pure ⟨Code.quiet_builtin _ (by decide +kernel), codeAny_builtin F.entry_type_call ?_⟩
  rw [Around.under_plain (weight_type_call_type "set" [.ref l] []) rfl]
  have h1 := F.called_set.notType
  have h2 := F.called_set.canCreate
  have hct := F.typeCall_set_1 (.ref l)
  repeat (any_goals (first | assumption | wp_step))
  refine codeAny_mono (code_set_led1 (.ref l) (E := E) (Q₁ := fun obj s₁ => obj = .ref s.heap.objs.size ∧ s₁ = { s with heap := s.heap.push { cls := .type "set", dict := none, data := .set #[] 0 (.fresh 0 0 (!w.params.followText "set-order")) } }) ⟨rfl, rfl⟩) fun r s₁ hr => ?_
  cases r with
  | error e => exact hr
  | ok fl =>
    cases fl with
    | ret obj =>
      obtain ⟨rfl, rfl⟩ := hr
      have hS : (s.heap.push { cls := .type "set", dict := none, data := .set #[] 0 (.fresh 0 0 (!w.params.followText "set-order")) }).get? s.heap.objs.size = some { cls := .type "set", dict := none, data := .set #[] 0 (.fresh 0 0 (!w.params.followText "set-order")) } := Heap.get?_push_size _ rfl
      have hT : Shared.TypeIs { s with heap := s.heap.push { cls := .type "set", dict := none, data := .set #[] 0 (.fresh 0 0 (!w.params.followText "set-order")) } } (.ref s.heap.objs.size) "set" := ⟨_, hS, rfl⟩
      have hli := F.called_set.init.lookup
      have hbi := F.called_set.init.bind (.ref s.heap.objs.size)
      repeat (any_goals (first | assumption | wp_step))
      refine codeAny_mono (codeAny_call_builtin (R := wants (fun r s₂ => r = .none ∧ ∃ h' tk, s₂ = { s with heap := h', toks := tk } ∧ SetS P w h' s.heap.objs.size (metS ns.reverse) ∧
          (∀ b o, s.heap.get? b = some o → h'.get? b = some o)) E) F.called_set.init.plain F.entry_set_init (check_set_init_1 hT ?_)) fun r₂ s₂ hr₂ => ?_
      · obtain ⟨ol, hol, hcl, nl, hdl⟩ := hl
        obtain ⟨ocls, odict, odata, oslots⟩ := ol
        simp only at hcl hdl
        subst hcl; subst hdl
        have hol' : (s.heap.push { cls := .type "set", dict := none, data := .set #[] 0 (.fresh 0 0 (!w.params.followText "set-order")) }).get? l = some { cls := .type "list", dict := odict, data := .seq items nl, slots := oslots } := Heap.get?_push_of_some _ hol
        have hsls := F.sub_list_set
        have hslf := F.sub_list_frozenset
        have hne : (Value.type "list" == Value.type "dict") = false := by decide
        have hl1 : (s.heap.push { cls := .type "set", dict := none, data := .set #[] 0 (.fresh 0 0 (!w.params.followText "set-order")) }).IsList l items := ⟨_, hol', rfl, nl, rfl⟩
        unfold Builtin.«set.__init__» noKeywords Builtin.Frozenset.updateFrom
        generalize hPI : pyIter = PI
        wp_walk
        subst hPI
        refine wpAny_pyIter_list hl1 ?_
        refine wpAny_bind (wpAny_runValue ?_)
        have hlS : l < s.heap.objs.size := Heap.lt_size hol
        have hh3 : A.in1.in1.in1.handled = none := by simp [hh]
        have hneI : l ≠ (s.heap.push { cls := .type "set", dict := none, data := .set #[] 0 (.fresh 0 0 (!w.params.followText "set-order")) }).objs.size := by
          rw [Heap.size_push]; exact Nat.ne_of_lt (Nat.lt_succ_of_lt hlS)
        have hSf : s.heap.objs.size ∉ [(s.heap.push { cls := .type "set", dict := none, data := .set #[] 0 (.fresh 0 0 (!w.params.followText "set-order")) }).objs.size, l] := by
          rw [Heap.size_push]; simp only [List.mem_cons, List.mem_singleton, List.not_mem_nil, or_false, not_or]
          exact ⟨Nat.ne_of_lt (Nat.lt_succ_self _), Nat.ne_of_gt hlS⟩
        have hval : ∀ (i : Nat) (v : Value), items[i]? = some v → ∃ k t, ns[i]? = some k ∧ v = .str k t := fun i v hv => by
          have q : items.toList[i]? = some v := by rw [Array.getElem?_toList]; exact hv
          have hi : i < ns.length := by rw [← hisz]; rw [← Array.length_toList]; exact (List.getElem?_eq_some_iff.mp q).1
          obtain ⟨t, ht⟩ := hit.get i _ (List.getElem?_eq_getElem hi)
          exact ⟨_, t, List.getElem?_eq_getElem hi, Option.some.inj (q.symm.trans ht)⟩
        refine setS_update ((Walks.list hh3 _ l hneI items).toS) s.heap.objs.size hSf ns hisz hb hval (items.size - 0) 0 _ (by omega) (Nat.zero_le _)
          ⟨⟨_, Heap.get?_push_size _ rfl, rfl, rfl⟩, (hl1.push _)⟩ (setS_fresh (Heap.get?_push_of_some _ hS)) ?hR
        case hR =>
          intro s' hm hS'
          have old : ∀ b o, s.heap.get? b = some o → s'.heap.get? b = some o := fun b o e => by
            have hb' : b < s.heap.objs.size := Heap.lt_size e
            refine hm.heap b o (fun z => ?_) (Heap.get?_push_of_some _ (Heap.get?_push_of_some _ e))
            rcases List.mem_cons.mp z with z | z
            · exact Nat.ne_of_lt hb' z
            · rw [Heap.size_push] at z
              exact Nat.ne_of_lt (Nat.lt_succ_of_lt hb') (List.mem_singleton.mp z)
          obtain ⟨h', g2, d', tk', os'⟩ := s'
          have eg : g2 = s.gens := hm.gens
          have ed : d' = s.drawn := hm.drawn
          have eo : os' = s.os := hm.os
          subst eg; subst ed; subst eo
          show wpAny _ _ _ _ _ _
          refine wpAny_pure ?_
          show wpAny _ _ (ret Value.none) _ _ _
          exact wpAny_pure ⟨rfl, h', tk', rfl, hS', old⟩
      · cases r₂ with
        | error e => exact hr₂
        | ok fl₂ =>
          cases fl₂ with
          | ret r =>
            obtain ⟨rfl, h', tk, rfl, hS', hk'⟩ := hr₂
            repeat (any_goals (first | assumption | wp_step))
            exact h _ _ hS' hk'
          | _ => exact hr₂.elim
    | _ => exact hr.elim
end
end L2
namespace L2
open PySem PySem.Spec PyProof.Rows
/-! ### sorted -/
theorem strs_of {P : Program} {w : World} : ∀ (l : List (Int × Value)), (∀ e ∈ l, GoodS P w e) → StrsAre (l.map (·.2)) (l.map keyS)
  | [], _ => .nil
  | e :: r, h => by
    obtain ⟨z, tk, h1, _⟩ := h e (.head _)
    have ih := strs_of r fun x hx => h x (.tail _ hx)
    have h2 : keyS e = z := by unfold keyS; rw [h1]
    rw [List.map_cons, List.map_cons, h1, h2]
    exact .cons z tk ih
theorem strs_perm {vs us : List Value} {xs : List Str} (h : StrsAre us xs) (p : vs.Perm us) : ∃ ys, StrsAre vs ys ∧ ys.Perm xs := by
  have key : ∀ v ∈ vs, ∃ z t, v = Value.str z t := fun v hv => by
    obtain ⟨i, hi⟩ := List.mem_iff_getElem?.mp (p.mem_iff.mp hv)
    have hl : i < xs.length := by rw [← h.length]; exact (List.getElem?_eq_some_iff.mp hi).1
    obtain ⟨t, ht⟩ := h.get i _ (List.getElem?_eq_getElem hl)
    exact ⟨_, t, Option.some.inj (hi.symm.trans ht)⟩
  have mk : ∀ l : List Value, (∀ v ∈ l, ∃ z t, v = Value.str z t) → StrsAre l (l.map fun v => keyS (0, v)) := by
    intro l
    induction l with
    | nil => intro _; exact .nil
    | cons v r ih =>
      intro hv
      obtain ⟨z, t, rfl⟩ := hv v (.head _)
      exact .cons z t (ih fun x hx => hv x (.tail _ hx))
  have un : ∀ {l : List Value} {ys : List Str}, StrsAre l ys → l.map (fun v => keyS (0, v)) = ys := by
    intro l ys q
    induction q with
    | nil => rfl
    | cons z t _ ih => rw [List.map_cons, ih]; rfl
  exact ⟨_, mk vs key, by have := p.map (fun v => keyS (0, v)); rw [un h] at this; exact this⟩
section
variable {P : Program} {w : World} {A : Around} {E : Value → Shared → Prop} {s : Shared} {a : Addr} {L : List Str}
theorem sorted_setS {Q : Value → Shared → Prop} (R : SetS P w s.heap a L) (hh : A.handled = none) (h64 : L.length < 64)
    (hQ : ∀ s' p (out : Array Value) (c : Nat) (ys : List Str), (∀ b o, s.heap.get? b = some o → s'.heap.get? b = some o) → s'.gens = s.gens → s'.os = s.os → s.heap.objs.size ≤ p →
      s'.heap.get? p = some (seqObj "list" out c) → StrsAre out.toList ys → ys.Perm L → sortedS ys = true → Q (.ref p) s') :
    wpAny (model P w) A (call (.builtin "sorted") [.ref a]) Q E s := by
  obtain ⟨o, es, ep, t, ho, hex, hd, g, pm0, nd, hb, hf, hr, hl⟩ := R
  refine Calls.call_function_entry kind_sorted plain_sorted entry_sorted (args_sorted1 _) ?_
  unfold Builtin.«sorted»
  refine wpAny_bind (m := checkCount "sorted" 1 1 _) (wpAny_pure ?_)
  refine wpAny_bind (collect_set (A := A.in1) hh ⟨o, ho, hex.1, hd⟩ hf hb hr hl fun s1 vs k1 hz g1 o1 pm => ?_)
  obtain ⟨xs, hI, px⟩ := strs_perm (strs_of es.toList g) pm
  have hvl : vs.length = L.length := by rw [hI.length, px.length_eq, pm0.length_eq]
  refine wpAny_bind (wpAny_newList ?_ (by rw [hvl, sizeLine_eq]; omega))
  have hoL : (s1.heap.push (seqObj "list" vs.toArray 0)).get? s1.heap.objs.size = some (seqObj "list" vs.toArray 0) := Heap.get?_push_size _ rfl
  refine wpAny_bind (wpAny_holding (wpAny_call_entry slot_list_sort ⟨_, hoL, rfl⟩ entry_list_sort (list_sort_treeK strKind_oneLt hoL hI.keysOf (fun v₁ v₂ rest e => keyKind_strs (by rw [← e]; exact hI)) (by rw [hvl]; exact h64) fun st' hp hs => ⟨_, rfl, ?_⟩) (args_list_sort _)))
  obtain ⟨ys, b1, b2, b3⟩ := sorted_out_str hI hp hs
  obtain ⟨c, hc⟩ := sortedHeap_at (vs := vs) (out := (arrOf st').map (·.2)) hoL
  refine wpAny_pure ⟨_, rfl, hQ _ s1.heap.objs.size _ c ys (fun b u e => ?_) g1 o1 hz hc b1 (b2.trans (px.trans pm0)) b3⟩
  have q := k1 b u e
  have hlt := Heap.lt_size q
  show (sortedHeap (s1.heap.push (seqObj "list" vs.toArray 0)) s1.heap.objs.size vs ((arrOf st').map (·.2))).get? b = some u
  rw [sortedHeap_old (Nat.ne_of_lt hlt) (by rw [size_push']; exact Nat.lt_succ_of_lt hlt)]
  exact Heap.get?_push_of_some _ q
end
/-! ### the rules -/
/-- the set of texts at a -/
def SetSO (P : Program) (w : World) (a : Addr) (L : List Str) : HO := .ext fun h => SetS P w h a L
theorem setSO_new {P : Program} {w : World} {H : Hp} {h : Heap} {a : Addr} {L : List Str} (R : SetS P w h a L) : ObjOk P w H h a (SetSO P w a L) := by
  have ⟨o, es, ep, t, ho, r⟩ := R
  refine ⟨R, ⟨o, ho⟩, fun h1 h2 p k => ?_⟩
  exact SetS.at (P := P) (w := w) p k
section
variable {X : Cx}
def rSetS (K : PySem.W.Frag) (P : Program) (w : World) : List V → Hp → VK → Prop := fun xs H Q => ∃ (l : Addr) (ns : List Str), xs = [V.ref l] ∧ SqL K H l (ns.map V.str) ∧ ns.length < 3000 ∧ ∀ a, H a = none → Q (.ref a) (upd H a (SetSO P w a (metS ns.reverse)))
theorem cr_setS (hc : X.calm = true) : CallR X (.type "set") (rSetS X.K X.prog X.w) := by
  intro pins s σ H xs us Q I r h
  obtain ⟨l, ns, rfl, hl, hf, q⟩ := h
  rw [Vals.ref1 r]
  obtain ⟨its, rv, pl, hz⟩ := I.list hl
  have hn : H s.heap.objs.size = none := I.hok.fresh (Nat.le_refl _)
  refine call_set_strs (P := X.prog) (w := X.w) ns (I.ok.hd hc) pl.isList (by simpa using rv.strs) (by unfold scanBound; omega) fun h' tk R k => ?_
  exact ⟨.ref s.heap.objs.size, upd H s.heap.objs.size (SetSO X.prog X.w s.heap.objs.size (metS ns.reverse)), I.laid (t' := tk) k (Nat.le_refl _) (setSO_new R), rfl, q _ hn⟩
/-- sorted(set) -/
def rSortSet (P : Program) (w : World) : List V → Hp → VK → Prop := fun vs H Q => ∃ (a : Addr) (L : List Str), vs = [V.ref a] ∧ H a = some (SetSO P w a L) ∧ L.length < 64 ∧
  ∀ (ys : List Str) (p : Addr), ys.Perm L → sortedS ys = true → H p = none → Q (.ref p) (upd H p (.lst (ys.map V.str)))
theorem cr_sortSet (hc : X.calm = true) : CallR X (.builtin "sorted") (rSortSet X.prog X.w) := by
  intro pins s σ H vs us Q I r h
  obtain ⟨a, L, rfl, ha, hf, q⟩ := h
  have R : SetS X.prog X.w s.heap a L := (I.hok a _ ha).1
  rw [Vals.ref1 r]
  refine sorted_setS R (I.ok.hd hc) hf fun s' p out c ys k g o hp hg hout pm pw => ?_
  have hlen : (ys.map V.str).length ≤ sizeLine := by rw [List.length_map, sizeLine_eq, pm.length_eq]; omega
  have hn : H p = none := I.hok.fresh hp
  have hv : Vals (ys.map V.str) out.toList := vals_of_strs hout
  have J : Inv X pins σ (upd H p (.lst (ys.map V.str))) { s with heap := s'.heap, gens := s'.gens, drawn := s'.drawn, toks := s'.toks } :=
    I.call (ch := []) (Un.laid k hp hn) (I.hok.laid k hp ⟨hlen, out.toList, c, hv, hg⟩) (by rw [g]; exact I.bare) (fun _ z => nomatch z)
  have e : s' = { s with heap := s'.heap, gens := s'.gens, drawn := s'.drawn, toks := s'.toks } := by
    cases s'
    cases s
    cases o
    rfl
  rw [e]
  exact ⟨.ref p, _, J, rfl, q ys p pm pw hn⟩
end
end L2
namespace G
open PySem PySem.Spec PyProof.Rows L2
section
variable {Γ : Gm} {H : Hp} {Q : VK} {l a : Addr} {ns L : List Str}
theorem wc_setS (m : SqL Γ.K H l (ns.map V.str)) (hl : ns.length < 3000) (q : ∀ a, H a = none → Q (.ref a) (upd H a (SetSO Γ.P Γ.w a (metS ns.reverse)))) : WC Γ (.type "set") [.ref l] H Q :=
  ⟨rSetS Γ.K Γ.P Γ.w, fun X g => (by have := cr_setS (X := X) g.calm; rw [g.K, g.P, g.w] at this; exact this), l, ns, rfl, m, hl, q⟩
theorem wc_sortSet (m : H a = some (SetSO Γ.P Γ.w a L)) (hl : L.length < 64) (q : ∀ (ys : List Str) (p : Addr), ys.Perm L → sortedS ys = true → H p = none → Q (.ref p) (upd H p (.lst (ys.map V.str)))) : WC Γ (.builtin "sorted") [.ref a] H Q :=
  ⟨rSortSet Γ.P Γ.w, fun X g => (by have := cr_sortSet (X := X) g.calm; rw [g.P, g.w] at this; exact this), a, L, rfl, m, hl, q⟩
theorem wc_sortS (m : SqL Γ.K H l (ns.map V.str)) (hl : ns.length < 64) (q : ∀ (ys : List Str) (p : Addr), ys.Perm ns → sortedS ys = true → H p = none → Q (.ref p) (upd H p (.lst (ys.map V.str)))) : WC Γ (.builtin "sorted") [.ref l] H Q :=
  ⟨rSortedS Γ.K, fun X g => (by have := cr_sortedS (X := X); rw [g.K] at this; exact this), l, ns, rfl, m, hl, q⟩
end
end G
/-! trees of formulas -/
namespace G
open PySem PySem.Spec PyProof.Rows L2
inductive Tr where
  | z (w : Str)
  | st (k : Str) (d : Int)
  | mk (k : Str)
  | one (w : Str) (a : Tr)
  | two (w : Str) (a b : Tr)
deriving DecidableEq
namespace Tr
def size : Tr → Nat
  | z _ => 1
  | st _ _ => 1
  | mk _ => 1
  | one _ a => size a + 1
  | two _ a b => size a + size b + 1
/-- how deep -/
def dep : Tr → Nat
  | z _ => 1
  | st _ _ => 1
  | mk _ => 1
  | one _ a => dep a + 1
  | two _ a b => max (dep a) (dep b) + 1
def word : Tr → Str
  | z w => w
  | st _ _ => "step"
  | mk _ => "marked"
  | one w _ => w
  | two w _ _ => w
def subs : Tr → List Tr
  | one _ a => [a]
  | two _ a b => [a, b]
  | _ => []
/-- the names behind a word, from the left -/
def told (w : Str) : Tr → List Str
  | z _ => []
  | st k _ => if (Str.ofString "step") = w then [k] else []
  | mk k => if (Str.ofString "marked") = w then [k] else []
  | one _ a => told w a
  | two _ a b => told w a ++ told w b
def steps : Tr → Nat
  | z _ => 0
  | st _ _ => 1
  | mk _ => 0
  | one _ a => steps a
  | two _ a b => steps a + steps b
/-- one behind the other, n times -/
def grp (t : Tr) : Nat → Tr
  | 0 => z "here"
  | 1 => t
  | n + 2 => two "then" (grp t (n + 1)) t
/-- a walk's way back -/
def back : Tr → Tr
  | st k d => st k (-d)
  | two w a b => two w (back b) (back a)
  | t => t
/-- the words that make names -/
def okw (w : Str) : Prop := w ≠ "step" ∧ w ≠ "marked" ∧ PyData.strOk w = true
/-- no word that is not one -/
def ok : Tr → Prop
  | z w => okw w
  | st k _ => PyData.strOk k = true
  | mk k => PyData.strOk k = true
  | one w a => okw w ∧ ok a
  | two w a b => okw w ∧ ok a ∧ ok b
def walk : Tr → Prop
  | z w => w = "here"
  | st _ _ => True
  | two w a b => w = "then" ∧ walk a ∧ walk b
  | _ => False
end Tr
/-- the tree stands at p -/
def TrP (K : PySem.W.Frag) (H : Hp) : Tr → Addr → Prop
  | .z w, p => SqT K H p [.str w]
  | .st k d, p => SqT K H p [.str "step", .str k, .int d]
  | .mk k, p => SqT K H p [.str "marked", .str k]
  | .one w a, p => ∃ q, SqT K H p [.str w, .ref q] ∧ TrP K H a q
  | .two w a b, p => ∃ q r, SqT K H p [.str w, .ref q, .ref r] ∧ TrP K H a q ∧ TrP K H b r
section
variable {E : Hv} {K : PySem.W.Frag} {H H' : Hp}
theorem sqt_loc {MC : Addr → Prop} {p : Addr} {xs : List V} (k : ∀ a o, H a = some o → a ∈ ([] : List Addr) ∨ Imm MC o → H' a = some o) (h : SqT K H p xs) : SqT K H' p xs := by
  rcases h with (h | ⟨o, h⟩) | h
  · exact .inl (.inl (k _ _ h (.inr trivial)))
  · exact .inl (.inr ⟨o, k _ _ h (.inr trivial)⟩)
  · exact .inr h
theorem TrP.loc {MC : Addr → Prop} : ∀ (t : Tr) (p : Addr), Loc MC [] fun H => TrP K H t p
  | .z w, p => fun H H' k h => sqt_loc k h
  | .st _ _, p => fun H H' k h => sqt_loc k h
  | .mk _, p => fun H H' k h => sqt_loc k h
  | .one w a, p => fun H H' k ⟨q, h, ha⟩ => ⟨q, sqt_loc k h, TrP.loc a q H H' k ha⟩
  | .two w a b, p => fun H H' k ⟨q, r, h, ha, hb⟩ => ⟨q, r, sqt_loc k h, TrP.loc a q H H' k ha, TrP.loc b r H H' k hb⟩
theorem TrP.same {t : Tr} {p : Addr} (h : TrP K H t p) (s : Same H H') : TrP K H' t p := TrP.loc (MC := fun _ => True) t p H H' (fun a o e _ => s a o e) h
def trF (t : Tr) (p : Addr) : PF E := ⟨fun H => TrP E.K H t p, TrP.loc t p⟩
/-- what stands in the tuple -/
def Its (K : PySem.W.Frag) (H : Hp) : Tr → List V → Prop
  | .z w, xs => xs = [.str w]
  | .st k d, xs => xs = [.str "step", .str k, .int d]
  | .mk k, xs => xs = [.str "marked", .str k]
  | .one w a, xs => ∃ q, xs = [.str w, .ref q] ∧ TrP K H a q
  | .two w a b, xs => ∃ q r, xs = [.str w, .ref q, .ref r] ∧ TrP K H a q ∧ TrP K H b r
theorem TrP.its {t : Tr} {p : Addr} (h : TrP K H t p) : ∃ xs, SqT K H p xs ∧ Its K H t xs := by
  cases t with
  | z w => exact ⟨_, h, rfl⟩
  | st k d => exact ⟨_, h, rfl⟩
  | mk k => exact ⟨_, h, rfl⟩
  | one w a => obtain ⟨q, h, ha⟩ := h; exact ⟨_, h, q, rfl, ha⟩
  | two w a b => obtain ⟨q, r, h, ha, hb⟩ := h; exact ⟨_, h, q, r, rfl, ha, hb⟩
theorem Its.word {t : Tr} {xs : List V} (h : Its K H t xs) : xs[0]? = some (.str t.word) := by
  cases t with
  | z w => cases h; rfl
  | st k d => cases h; rfl
  | mk k => cases h; rfl
  | one w a => obtain ⟨q, rfl, _⟩ := h; rfl
  | two w a b => obtain ⟨q, r, rfl, _⟩ := h; rfl
/-! ### equality -/
def Tr.data : Tr → PyData
  | .z w => .tuple [.str w]
  | .st k d => .tuple [.str "step", .str k, .int d]
  | .mk k => .tuple [.str "marked", .str k]
  | .one w a => .tuple [.str w, a.data]
  | .two w a b => .tuple [.str w, a.data, b.data]
theorem TrP.dp : ∀ {t : Tr} {p : Addr}, TrP K H t p → Dp K H (.ref p) t.data
  | .z w, p, h => .tup h (.cons (.str _) .nil)
  | .st k d, p, h => .tup h (.cons (.str _) (.cons (.str _) (.cons (.int _) .nil)))
  | .mk k, p, h => .tup h (.cons (.str _) (.cons (.str _) .nil))
  | .one w a, p, ⟨q, h, ha⟩ => .tup h (.cons (.str _) (.cons (TrP.dp ha) .nil))
  | .two w a b, p, ⟨q, r, h, ha, hb⟩ => .tup h (.cons (.str _) (.cons (TrP.dp ha) (.cons (TrP.dp hb) .nil)))
theorem Tr.depth : ∀ t : Tr, t.data.depth = t.dep
  | .z w => by simp [Tr.data, PyData.depth, PyData.depthAll, Tr.dep]
  | .st k d => by simp [Tr.data, PyData.depth, PyData.depthAll, Tr.dep]
  | .mk k => by simp [Tr.data, PyData.depth, PyData.depthAll, Tr.dep]
  | .one w a => by simp [Tr.data, PyData.depth, PyData.depthAll, Tr.dep, Tr.depth a]
  | .two w a b => by simp [Tr.data, PyData.depth, PyData.depthAll, Tr.dep, Tr.depth a, Tr.depth b]
theorem Tr.lay : ∀ {t : Tr}, t.ok → t.data.canLay0 = true
  | .z w, h => by simp [Tr.data, PyData.canLay0, PyData.canLayAll0]; exact h.2.2
  | .st k d, h => by simp [Tr.data, PyData.canLay0, PyData.canLayAll0]; exact ⟨by decide +kernel, h⟩
  | .mk k, h => by simp [Tr.data, PyData.canLay0, PyData.canLayAll0]; exact ⟨by decide +kernel, h⟩
  | .one w a, h => by simp [Tr.data, PyData.canLay0, PyData.canLayAll0]; exact ⟨h.1.2.2, Tr.lay h.2⟩
  | .two w a b, h => by simp [Tr.data, PyData.canLay0, PyData.canLayAll0]; exact ⟨h.1.2.2, Tr.lay h.2.1, Tr.lay h.2.2⟩
theorem Tr.shaped {t : Tr} (h : t.ok) (d : t.dep ≤ 64) : SeqAt.shaped t.data = true := by
  unfold SeqAt.shaped
  rw [Tr.lay h, Tr.depth]
  simp [d]
theorem Tr.e1 (t : Tr) (k : Str) : PyData.eqv (.str k) t.data = false := by cases t <;> simp [Tr.data, PyData.eqv]
theorem Tr.e2 (t : Tr) (k : Str) : PyData.eqv t.data (.str k) = false := by cases t <;> simp [Tr.data, PyData.eqv]
theorem Tr.e3 (t : Tr) (k : Int) : PyData.eqv (.int k) t.data = false := by cases t <;> simp [Tr.data, PyData.eqv]
theorem Tr.e4 (t : Tr) (k : Int) : PyData.eqv t.data (.int k) = false := by cases t <;> simp [Tr.data, PyData.eqv]
theorem sk (a b : Str) : PyData.eqv (.str a) (.str b) = (a == b) := by simp [PyData.eqv]
theorem ik (a b : Int) : PyData.eqv (.int a) (.int b) = (a == b) := by simp [PyData.eqv]
theorem tk (a b : List PyData) : PyData.eqv (.tuple a) (.tuple b) = PyData.eqvAll a b := by simp [PyData.eqv]
theorem Tr.eqv_iff : ∀ a b : Tr, PyData.eqv a.data b.data = true ↔ a = b := by
  intro a
  induction a with
  | z w => intro b; cases b <;> simp [Tr.data, tk, sk, ik, PyData.eqvAll, Tr.e1, Tr.e2, Tr.e3, Tr.e4]
  | st k d => intro b; cases b <;> simp [Tr.data, tk, sk, ik, PyData.eqvAll, Tr.e1, Tr.e2, Tr.e3, Tr.e4]
  | mk k => intro b; cases b <;> simp [Tr.data, tk, sk, ik, PyData.eqvAll, Tr.e1, Tr.e2, Tr.e3, Tr.e4]
  | one w a ih => intro b; cases b <;> simp [Tr.data, tk, sk, ik, PyData.eqvAll, Tr.e1, Tr.e2, Tr.e3, Tr.e4, ih]
  | two w a b ih1 ih2 => intro c; cases c <;> simp [Tr.data, tk, sk, ik, PyData.eqvAll, Tr.e1, Tr.e2, Tr.e3, Tr.e4, ih1, ih2]
theorem Tr.eqv (a b : Tr) : PyData.eqv a.data b.data = decide (a = b) := by
  have h := Tr.eqv_iff a b
  by_cases e : a = b
  · rw [decide_eq_true e]; exact h.mpr e
  · rw [decide_eq_false e]
    cases q : PyData.eqv a.data b.data with
    | false => rfl
    | true => exact absurd (h.mp q) e
/-- == of two trees -/
theorem wo_eqT {Γ : Gm} {Q : VK} {s t : Tr} {p q : Addr} (hp : TrP Γ.K H s p) (hq : TrP Γ.K H t q) (os : s.ok) (ot : t.ok) (ds : s.dep ≤ 64) (dt : t.dep ≤ 64) (k : Q (.bl (decide (s = t))) H) : WO Γ (compareOp .Eq) (.ref p) (.ref q) H Q :=
  ⟨rEqD Γ.K, fun X g => (by have := op_eqD (X := X) (Nat.lt_of_le_of_lt (Nat.le_refl _) g.hu64); rw [g.K] at this; exact this), _, _, hp.dp, hq.dp, Tr.shaped os ds, Tr.shaped ot dt, by rw [Tr.eqv]; exact k⟩
theorem wo_neT {Γ : Gm} {Q : VK} {s t : Tr} {p q : Addr} (hp : TrP Γ.K H s p) (hq : TrP Γ.K H t q) (os : s.ok) (ot : t.ok) (ds : s.dep ≤ 64) (dt : t.dep ≤ 64) (k : Q (.bl (!decide (s = t))) H) : WO Γ (compareOp .NotEq) (.ref p) (.ref q) H Q :=
  ⟨rNeD Γ.K, fun X g => (by have := op_neD (X := X) (Nat.lt_of_le_of_lt (Nat.le_refl _) g.hu64); rw [g.K] at this; exact this), _, _, hp.dp, hq.dp, Tr.shaped os ds, Tr.shaped ot dt, by rw [Tr.eqv]; exact k⟩
/-- isinstance -/
theorem wc_isi {Γ : Gm} {Q : VK} {x c : V} {t u : Value} {b : Bool} (k : ClsV c u) (ty : TyX Γ.K H x t) (e : PySem.W.kitOne Γ.K t u = some b) (q : Q (.bl b) H) : WC Γ (.builtin "isinstance") [x, c] H Q :=
  ⟨rIsi Γ.K, fun X g => (by have := call_isi (X := X); rw [g.K] at this; exact this), x, c, t, u, b, rfl, k, ty, e, q⟩
/-- a tuple's type, whatever it is -/
theorem sqt_ty {p : Addr} {xs : List V} (h : SqT K H p xs) : TyX K H (.ref p) (.type "tuple") := by
  rcases h with (h | ⟨o, h⟩) | h
  · exact .base (.tup h)
  · exact .fTuple h
  · obtain ⟨o, its, n, e, c, _⟩ := h
    exact .kTuple e c
theorem wc_all {Γ : Gm} {Q : VK} {a : Addr} {bs : List Bool} (m : SqL Γ.K H a (bs.map V.bl)) (q : Q (.bl (bs.all id)) H) : WC Γ (.builtin "all") [.ref a] H Q :=
  ⟨rAll Γ.K, fun X g => (by have := cr_all (X := X) g.calm; rw [g.K] at this; exact this), a, bs, rfl, m, q⟩
theorem wc_sum {Γ : Gm} {Q : VK} {a : Addr} {ns : List Int} (m : SqL Γ.K H a (ns.map V.int)) (q : Q (.int ns.sum) H) : WC Γ (.builtin "sum") [.ref a] H Q :=
  ⟨rSum Γ.K, fun X g => (by have := cr_sum (X := X) g.calm; rw [g.K] at this; exact this), a, ns, rfl, m, q⟩
/-- a sign within a text -/
theorem wo_in1 {Γ : Gm} {Q : VK} {z : Str} {c : Nat} (q : Q (.bl (decide (c ∈ z.cps.toList))) H) : WO Γ (compareOp .In) (.str ⟨#[c]⟩) (.str z) H Q :=
  ⟨_, fun X g => op_in_str, _, _, rfl, rfl, by
    have h := StrLaws.found_one z c
    rw [show (!(Builtin.Str.occurrences z ⟨#[c]⟩ 0 z.length 1).isEmpty) = decide (c ∈ z.cps.toList) from h]
    exact q⟩
theorem br_t {p : Prop} [Decidable p] {A B : Prop} (h : p) (a : A) : br (decide p) A B := by rw [decide_eq_true h]; exact a
theorem br_f {p : Prop} [Decidable p] {A B : Prop} (h : ¬ p) (b : B) : br (decide p) A B := by rw [decide_eq_false h]; exact b
theorem br_nt {p : Prop} [Decidable p] {A B : Prop} (h : p) (b : B) : br (!decide p) A B := by rw [decide_eq_true h]; exact b
theorem br_nf {p : Prop} [Decidable p] {A B : Prop} (h : ¬ p) (a : A) : br (!decide p) A B := by rw [decide_eq_false h]; exact a
/-- what stands behind the word -/
inductive Rest (K : PySem.W.Frag) (H : Hp) : List V → List Tr → Prop
  | nil : Rest K H [] []
  | str {z : Str} {r : List V} {ts : List Tr} : Rest K H r ts → Rest K H (.str z :: r) ts
  | int {i : Int} {r : List V} {ts : List Tr} : Rest K H r ts → Rest K H (.int i :: r) ts
  | ref {p : Addr} {t : Tr} {r : List V} {ts : List Tr} : TrP K H t p → Rest K H r ts → Rest K H (.ref p :: r) (t :: ts)
/-- trees side by side -/
inductive TrPs (K : PySem.W.Frag) (H : Hp) : List Tr → List Addr → Prop
  | nil : TrPs K H [] []
  | cons {t : Tr} {p : Addr} {ts : List Tr} {ps : List Addr} : TrP K H t p → TrPs K H ts ps → TrPs K H (t :: ts) (p :: ps)
def isRef : V → Bool
  | .ref _ => true
  | _ => false
theorem TrP.rest {t : Tr} {p : Addr} (h : TrP K H t p) : ∃ r, SqT K H p (.str t.word :: r) ∧ Rest K H r t.subs ∧ r.length ≤ 2 := by
  cases t with
  | z w => exact ⟨_, h, .nil, by simp⟩
  | st k d => exact ⟨_, h, .str (.int .nil), by simp⟩
  | mk k => exact ⟨_, h, .str .nil, by simp⟩
  | one w a => obtain ⟨q, h, ha⟩ := h; exact ⟨_, h, .ref ha .nil, by simp⟩
  | two w a b => obtain ⟨q, r, h, ha, hb⟩ := h; exact ⟨_, h, .ref ha (.ref hb .nil), by simp⟩
theorem Rest.at {r : List V} {ts : List Tr} (h : Rest K H r ts) : ∀ {i : Nat} {x : V}, r[i]? = some x → (∃ z, x = .str z) ∨ (∃ j, x = .int j) ∨ ∃ p t, x = .ref p ∧ TrP K H t p := by
  induction h with
  | nil => intro i x e; simp at e
  | str _ ih => intro i x e; cases i with
    | zero => simp at e; exact .inl ⟨_, e.symm⟩
    | succ i => exact ih e
  | int _ ih => intro i x e; cases i with
    | zero => simp at e; exact .inr (.inl ⟨_, e.symm⟩)
    | succ i => exact ih e
  | ref hp _ ih => intro i x e; cases i with
    | zero => simp at e; exact .inr (.inr ⟨_, _, e.symm, hp⟩)
    | succ i => exact ih e
theorem Rest.ps {r : List V} {ts : List Tr} (h : Rest K H r ts) : ∃ ps : List Addr, r.filter isRef = ps.map V.ref ∧ TrPs K H ts ps := by
  induction h with
  | nil => exact ⟨[], rfl, .nil⟩
  | str _ ih => exact ih
  | int _ ih => exact ih
  | @ref p t r ts hp _ ih =>
    obtain ⟨ps, e, h⟩ := ih
    refine ⟨p :: ps, ?_, .cons hp h⟩
    rw [List.filter_cons_of_pos rfl, e]
    rfl
theorem TrPs.same {ts : List Tr} {ps : List Addr} (h : TrPs K H ts ps) (s : Same H H') : TrPs K H' ts ps := by
  induction h with
  | nil => exact .nil
  | cons a _ ih => exact .cons (a.same s) ih
theorem TrPs.len {ts : List Tr} {ps : List Addr} (h : TrPs K H ts ps) : ps.length = ts.length := by
  induction h with
  | nil => rfl
  | cons _ _ ih => rw [List.length_cons, List.length_cons, ih]
theorem TrPs.get {ts : List Tr} {ps : List Addr} (h : TrPs K H ts ps) : ∀ {i : Nat} {p : Addr}, ps[i]? = some p → ∃ t, ts[i]? = some t ∧ TrP K H t p := by
  induction h with
  | nil => intro i p e; simp at e
  | cons a _ ih =>
    intro i p e
    cases i with
    | zero => simp at e; subst e; exact ⟨_, rfl, a⟩
    | succ i => exact ih e
theorem Tr.subs_dep {t s : Tr} (h : s ∈ t.subs) : s.dep < t.dep := by
  cases t with
  | one w a => simp [Tr.subs] at h; subst h; simp [Tr.dep]
  | two w a b => simp [Tr.subs] at h; rcases h with rfl | rfl <;> simp [Tr.dep] <;> omega
  | _ => simp [Tr.subs] at h
theorem Tr.subs_ok {t s : Tr} (o : t.ok) (h : s ∈ t.subs) : s.ok := by
  cases t with
  | one w a => simp [Tr.subs] at h; subst h; exact o.2
  | two w a b =>
    simp [Tr.subs] at h
    rcases h with rfl | rfl
    · exact o.2.1
    · exact o.2.2
  | _ => simp [Tr.subs] at h
/-- the name that stands at the tree's own word -/
def Tr.top (w : Str) : Tr → List Str
  | .st k _ => if (Str.ofString "step") = w then [k] else []
  | .mk k => if (Str.ofString "marked") = w then [k] else []
  | _ => []
theorem Tr.told_all (w : Str) : ∀ t : Tr, t.top w ++ (t.subs.map (Tr.told w)).flatten = t.told w
  | .z _ => rfl
  | .st _ _ => by simp [Tr.top, Tr.subs, Tr.told]
  | .mk _ => by simp [Tr.top, Tr.subs, Tr.told]
  | .one _ a => by simp [Tr.top, Tr.subs, Tr.told]
  | .two _ a b => by simp [Tr.top, Tr.subs, Tr.told]
theorem Tr.told_take (w : Str) (t : Tr) (n : Nat) : (t.top w ++ ((t.subs.take n).map (Tr.told w)).flatten).length ≤ (t.told w).length := by
  rw [← Tr.told_all w t]
  have h : t.subs.map (Tr.told w) = (t.subs.take n).map (Tr.told w) ++ (t.subs.drop n).map (Tr.told w) := by rw [← List.map_append, List.take_append_drop]
  rw [h, List.flatten_append]
  simp only [List.length_append]
  omega
theorem Tr.top_hit {w : Str} {t : Tr} {p : Addr} (hw : w = "step" ∨ w = "marked") (ok : t.ok) (hp : TrP K H t p) (h : t.word = w) : ∃ k, (∃ xs, SqT K H p xs ∧ xs[1]? = some (.str k)) ∧ t.top w = [k] := by
  cases t with
  | z v =>
    obtain rfl : v = w := h
    rcases hw with rfl | rfl
    · exact absurd rfl ok.1
    · exact absurd rfl ok.2.1
  | one v a =>
    obtain rfl : v = w := h
    rcases hw with rfl | rfl
    · exact absurd rfl ok.1.1
    · exact absurd rfl ok.1.2.1
  | two v a b =>
    obtain rfl : v = w := h
    rcases hw with rfl | rfl
    · exact absurd rfl ok.1.1
    · exact absurd rfl ok.1.2.1
  | st k d => exact ⟨k, ⟨_, hp, rfl⟩, by subst h; simp [Tr.top, Tr.word]⟩
  | mk k => exact ⟨k, ⟨_, hp, rfl⟩, by subst h; simp [Tr.top, Tr.word]⟩
theorem Tr.top_miss {w : Str} {t : Tr} (hw : w = "step" ∨ w = "marked") (ok : t.ok) (h : ¬ t.word = w) : t.top w = [] := by
  cases t with
  | st k d => exact if_neg h
  | mk k => exact if_neg h
  | _ => rfl
theorem Tr.steps_step {t : Tr} (ok : t.ok) (h : t.word = "step") : ((t.steps : Nat) : Int) = 1 := by
  cases t with
  | z v => exact absurd h ok.1
  | one v a => exact absurd h ok.1.1
  | two v a b => exact absurd h ok.1.1
  | st k d => rfl
  | mk k => exact absurd h (show ¬ (Str.ofString "marked" = Str.ofString "step") by decide +kernel)
theorem Tr.steps_sum {t : Tr} (ok : t.ok) (h : ¬ t.word = "step") : (t.subs.map fun s => ((Tr.steps s : Nat) : Int)).sum = ((t.steps : Nat) : Int) := by
  cases t with
  | st k d => exact absurd rfl h
  | z v => rfl
  | mk k => rfl
  | one v a => simp [Tr.subs, Tr.steps]
  | two v a b => simp [Tr.subs, Tr.steps]
/-! ### instances that hold a tree -/
def spInit (C : Addr) : Sp := fun vs H Q _ => ∃ (x dx : Addr) (v : V), vs = [.ref x, v] ∧ H x = some (.ins C dx []) ∧ Q .non (upd H x (.ins C dx [("form", v)]))
theorem made_same {x dx : Addr} {o o2 o3 : HO} (hx : H x = none) (hd : H dx = none) : Same H (upd (upd (upd H dx o) x o2) x o3) := fun a u e => by
  rw [upd_ne (ne_of_none e hx), upd_ne (ne_of_none e hx), upd_ne (ne_of_none e hd)]; exact e
/-- a new instance that holds v -/
theorem made {C : Addr} {v : V} {Q : VK} {E : XK} (q : ∀ c dx H', Same H H' → H' c = some (.ins C dx [("form", v)]) → Q (.ref c) H') :
    ∀ x dx, H x = none → H dx = none → dx ≠ x → spInit C (.ref x :: ([v] ++ [])) (upd (upd H dx (.own x)) x (.ins C dx [])) (fun v H2 => v = .non ∧ Q (.ref x) H2) E :=
  fun x dx hx hd _ => ⟨x, dx, v, rfl, upd_same, rfl, q x dx _ (made_same hx hd) upd_same⟩
/-- the instance of C at a holds the tree t -/
def LkP (K : PySem.W.Frag) (H : Hp) (C : Addr) (t : Tr) (a : Addr) : Prop := ∃ dx p, H a = some (.ins C dx [("form", .ref p)]) ∧ TrP K H t p
theorem LkP.same {C : Addr} {t : Tr} {a : Addr} (h : LkP K H C t a) (s : Same H H') : LkP K H' C t a := by
  obtain ⟨dx, p, e, h⟩ := h
  exact ⟨dx, p, s _ _ e, h.same s⟩
theorem TrP.fr {b : Addr} {xs : List V} {t : Tr} {p : Addr} (h : TrP K H t p) (f : Fr [b] H H') (hb : H b = some (.lst xs)) : TrP K H' t p :=
  TrP.loc (MC := fun _ => True) t p H H' (fun a o e i => f a o (fun z => by
    obtain rfl : a = b := List.mem_singleton.mp z
    rw [hb] at e; cases e
    rcases i with i | i
    · exact absurd i List.not_mem_nil
    · exact i) e) h
/-- what the text has of a class that holds a tree -/
structure KF (Γ : Gm) (x : Str) (C : Addr) : Prop where
  k : Kls Γ C
  na : NoAttr Γ.K C "form"
  mg : Γ.mg x = some (.ref C)
  me : PySem.W.kitOne Γ.K (.ref C) (.ref C) = some true
  tp : PySem.W.kitOne Γ.K (.type "tuple") (.ref C) = some false
  qn : PySem.W.findIn Γ.K (.ref C) "__ne__" = some (some (.builtin "object.__ne__"))
theorem KF.ty {Γ : Gm} {x : Str} {C a dx : Addr} {fs : List (Str × V)} (f : KF Γ x C) (h : H a = some (.ins C dx fs)) : TyX Γ.K H (.ref a) (.ref C) := .base (.ins h f.k.cls f.k.ca f.k.cn f.k.ct f.k.cm)
theorem KF.gc {Γ : Gm} {x : Str} {C : Addr} (f : KF Γ x C) : ∃ u, Γ.mg x = some u ∧ RelV (.ref C) u := ⟨_, f.mg, rfl⟩
/-- e.form -/
theorem wa_form {Γ : Gm} {l : Nat} {x : Str} {C a dx : Addr} {v : V} {Q : VK} (f : KF Γ x C) (h : H a = some (.ins C dx [("form", v)])) (q : Q v H) : WA (Γ.at l) "form" (.ref a) H Q := wa_fld (Γ := Γ.at l) f.k.cls f.na h (by rfl) q
end
end G
/-! list(text): the library has it for lists, tuples, dicts -/
namespace PySem.W
open PySem PyProof.Rows
section
variable {prog : Program} {w : World} {A : Around} {E : Value → Shared → Prop} {s : Shared}
theorem call_list_txt {Q : Value → Shared → Prop} (hh : A.handled = none) (x : Str) (t : Tok) (hn : x.cps.size ≤ sizeLine)
    (hQ : ∀ h' tk acc' c', (∀ b o, s.heap.get? b = some o → h'.get? b = some o) → h'.get? s.heap.objs.size = some { cls := .type "list", dict := none, data := .seq acc' c', slots := #[] } → ItemsOf (SignAt x) acc' x.cps.size → Q (.ref s.heap.objs.size) { s with heap := h', toks := tk }) :
    wpAny (model prog w) A (call (.type "list") [.str x t]) Q E s := by
  refine callType_codes (Q₁ := fun obj s₁ => obj = .ref s.heap.objs.size ∧ s₁ = { s with heap := s.heap.push { cls := .type "list", data := .seq #[] } }) PySem.F.called_list (PySem.F.typeCall_list_1 _) PySem.F.entry_list_init
    (code_list_new _ ⟨rfl, rfl⟩) fun obj s₁ h₁ => ?_
  obtain ⟨rfl, rfl⟩ := h₁
  have hS : (s.heap.push { cls := .type "list", data := .seq #[] }).get? s.heap.objs.size = some { cls := .type "list", data := .seq #[] } := Heap.get?_push_size _ rfl
  refine ⟨⟨_, hS, rfl⟩, PySem.F.args_list_init_2 _ _, ?_⟩
  show wpAny _ _ (do let old ← Builtin.List.listItems (.ref s.heap.objs.size); Builtin.List.listUpdate (.ref s.heap.objs.size) (fun _ => #[]); letGo old.toList.reverse; Builtin.List.listExtendWith (.ref s.heap.objs.size) (.str x t) .none) _ _ _
  refine wpAny_bind ?_
  unfold Builtin.List.listItems
  refine wpAny_bind (wpAny_seqItems hS rfl (wpAny_pure ?_))
  show wpAny _ _ (updateSeq s.heap.objs.size (fun _ => #[]) >>= fun _ => letGo (#[] : Array Value).toList.reverse >>= fun _ => Builtin.List.listExtendWith (.ref s.heap.objs.size) (.str x t) .none) _ _ _
  refine wpAny_bind (wpAny_updateSeq hS rfl ?_)
  have hS₂ := Heap.get?_update_self (Obj.mapSeq (fun _ => (#[] : Array Value))) hS rfl
  have sz : ((s.heap.push { cls := .type "list", data := .seq #[] }).update s.heap.objs.size (Obj.mapSeq (fun _ => (#[] : Array Value)))).objs.size = s.heap.objs.size + 1 := by rw [Heap.size_update, Heap.size_push]
  have oth : ∀ b o, s.heap.get? b = some o → ((s.heap.push { cls := .type "list", data := .seq #[] }).update s.heap.objs.size (Obj.mapSeq (fun _ => (#[] : Array Value)))).get? b = some o :=
    fun b o e => (Heap.get?_update_other _ _ (Nat.ne_of_gt (Heap.lt_size e))).trans (Heap.get?_push_of_some _ e)
  generalize ((s.heap.push { cls := .type "list", data := .seq #[] }).update s.heap.objs.size (Obj.mapSeq (fun _ => (#[] : Array Value)))) = H at hS₂ sz oth ⊢
  refine wpAny_bind (wpAny_letGo ?_)
  unfold Builtin.List.listExtendWith
  refine wpAny_bind (wpAny_typeOf (T := "str") (v := .str x t) rfl ?_)
  have h1 : Builtin.List.listSameRef (.ref s.heap.objs.size) (.str x t) = false := rfl
  have h2 : (Value.type "str" == Value.type "list") = false := by decide
  have h3 : (Value.type "str" == Value.type "tuple") = false := by decide
  simp only [h1, h2, h3, Bool.or_false, Bool.false_eq_true, if_false]
  refine wpAny_bind (wpAny_pyIter_str fun o St W hst => ?_)
  refine wpAny_bind (wpAny_holding ?_)
  unfold Builtin.List.listLengthHint
  refine wpAny_bind (wpAny_specialOf (T := "str") (v := .str x t) rfl PySem.F.str_len ?_)
  wp_delta
  refine wpAny_bind (wpAny_isInstance (T := "str") (v := .str x t) (b := true) rfl (by rw [isSubtype_type]; kernel_rfl) ?_)
  show wpAny _ A.in1.in1 (typeOf (Value.str x t) >>= _) _ _ _
  refine wpAny_bind (wpAny_typeOf (T := "str") (v := .str x t) rfl ?_)
  refine wpAny_pure ?_
  rw [if_neg (by decide)]
  have hSf : s.heap.objs.size ∉ [H.objs.size] := fun hm => by rw [List.mem_singleton.mp hm] at sz; exact absurd sz (Nat.ne_of_lt (Nat.lt_succ_self _))
  refine wpAny_pure ⟨plainId_quiet PySem.F.plain_extend_loop _, codeAny_extend_loopS (W A.in1.in1 (by simpa using hh)).toS hn _ hSf _ x.cps.size 0 _ _ _ rfl (Nat.zero_le _) hst (Heap.get?_push_of_some _ hS₂) (ItemsOf.nil _) fun s' acc' c' hm hS' hacc => ?_⟩
  rw [Moved.eq_with hm]
  refine ⟨rfl, hQ s'.heap s'.toks acc' c' (fun b o e => hm.heap b o (fun hmem => ?_) (Heap.get?_push_of_some _ (oth b o e))) hS' hacc⟩
  have hlt := Heap.lt_size e
  rcases List.mem_cons.mp hmem with h | h
  · exact absurd hlt (h ▸ Nat.lt_irrefl _)
  · rw [List.mem_singleton.mp h, sz] at hlt; exact absurd hlt (Nat.not_lt.mpr (Nat.le_succ _))
end
end PySem.W
namespace G
open PySem PySem.Spec PyProof.Rows L2
/-- a text's sgs -/
def sgs (z : Str) : List V := z.cps.toList.map fun c => V.str ⟨#[c]⟩
def rLstS : List V → Hp → VK → Prop := fun xs H Q => ∃ z : Str, xs = [.str z] ∧ z.length ≤ sizeLine ∧ ∀ p, H p = none → Q (.ref p) (upd H p (.lst (sgs z)))
theorem cr_listS {X : Cx} (hc : X.calm = true) : CallR X (.type "list") rLstS := by
  intro pins s σ H xs us Q I r h
  obtain ⟨z, rfl, hz, q⟩ := h
  obtain ⟨u, rfl, rx⟩ := vals1 r
  obtain ⟨t, rfl⟩ := rx
  refine PySem.W.call_list_txt (I.ok.hd hc) z t hz fun h' tk acc c kp e hi => ?_
  have hn : H s.heap.objs.size = none := I.hok.fresh (Nat.le_refl _)
  have hv : Vals (sgs z) acc.toList := vals_of_at (by have h1 : acc.toList.length = acc.size := Array.length_toList; have h2 := hi.1; rw [h1, h2]; unfold sgs; rw [List.length_map]; exact Array.length_toList) fun j x u hx hu => by
    obtain ⟨c0, t0, hc0, rfl⟩ := hi.2 j u (by rw [← Array.getElem?_toList]; exact hu)
    unfold sgs at hx
    rw [List.getElem?_map, Array.getElem?_toList, hc0] at hx
    obtain rfl := (Option.some.inj hx).symm
    exact ⟨t0, rfl⟩
  have hl : (sgs z).length ≤ sizeLine := by unfold sgs; rw [List.length_map, Array.length_toList]; exact hz
  exact ⟨.ref s.heap.objs.size, upd H s.heap.objs.size (.lst (sgs z)), I.laid (t' := tk) kp (Nat.le_refl _) (show ObjOk X.prog X.w _ h' _ (.lst (sgs z)) from ⟨hl, acc.toList, c, hv, by simpa using e⟩), rfl, q _ hn⟩
section
variable {Γ : Gm} {H : Hp} {Q : VK} {E : Hv} {H0 : Hp} {S0 : List Addr} {F : List (PF E)} {R R' : List (RS E)}
theorem wc_listS {z : Str} (hz : z.length ≤ sizeLine) (q : ∀ p, H p = none → Q (.ref p) (upd H p (.lst (sgs z)))) : WC Γ (.type "list") [.str z] H Q :=
  ⟨rLstS, fun X g => cr_listS g.calm, z, rfl, hz, q⟩
/-- one sign -/
def sg1 (c : Nat) : Str := ⟨#[c]⟩
theorem joinL1 : ∀ l : List Nat, TL.joinL [] (l.map fun c => [c]) = l
  | [] => rfl
  | [c] => rfl
  | c :: d :: r => by
    have ih := joinL1 (d :: r)
    show [c] ++ ([] ++ TL.joinL [] ((d :: r).map fun c => [c])) = c :: d :: r
    rw [ih]
    rfl
theorem jn1 (l : List Nat) : Txt.join (Str.ofString "") (l.map sg1) = ⟨l.toArray⟩ := by
  have h := SX.join_S [] (l.map fun c => [c])
  rw [joinL1, List.map_map] at h
  exact h
theorem let_mem {c : Nat} (h : c ∈ (Str.ofString "abcdefghijklmnopqrstuvwxyz").cps.toList) : 97 ≤ c ∧ c ≤ 122 := by
  rw [show (Str.ofString "abcdefghijklmnopqrstuvwxyz").cps.toList = List.range' 97 26 from by decide +kernel, List.mem_range'_1] at h
  omega
theorem let_len : (Str.ofString "abcdefghijklmnopqrstuvwxyz").length = 26 := by decide +kernel
theorem let_nd : (Str.ofString "abcdefghijklmnopqrstuvwxyz").cps.toList.Nodup := by decide +kernel
theorem sg_sum : ∀ l : List Nat, ((l.map sg1).map (·.length)).sum = l.length
  | [] => rfl
  | c :: r => by
    have ih := sg_sum r
    rw [List.map_cons, List.map_cons, List.sum_cons, ih, List.length_cons]
    show 1 + r.length = r.length + 1
    omega
theorem app_list (a b : Str) : (a ++ b).cps.toList = a.cps.toList ++ b.cps.toList := Array.toList_append
/-- what is picked of a text's signs -/
theorem picked {z : Str} {xs r : List V} (h : (xs ++ r).Perm (sgs z)) (nd : z.cps.toList.Nodup) : ∃ cs : List Nat, xs = cs.map (fun c => V.str (sg1 c)) ∧ cs.Nodup ∧ ∀ c ∈ cs, c ∈ z.cps.toList := by
  let of : V → Nat := fun v => match v with
    | .str y => y.cps.getD 0 0
    | _ => 0
  have hof : ∀ c : Nat, of (V.str (sg1 c)) = c := fun c => rfl
  have h2 := h.map of
  unfold sgs at h2
  rw [List.map_map, show (of ∘ fun c => V.str (⟨#[c]⟩ : Str)) = id from rfl, List.map_id, List.map_append] at h2
  refine ⟨xs.map of, ?_, ?_, fun c hc => h2.mem_iff.mp (List.mem_append_left _ hc)⟩
  · rw [List.map_map]
    refine (List.map_id xs).symm.trans (List.map_congr_left fun x hx => ?_)
    have hx2 := h.mem_iff.mp (List.mem_append_left _ hx)
    unfold sgs at hx2
    obtain ⟨c, _, rfl⟩ := List.mem_map.mp hx2
    rfl
  · exact (List.nodup_append.mp (h2.nodup_iff.mpr nd)).1
/-! ### the law's draws -/
/-- the box: what is left of the great number, the mixed number, how often was drawn; n draws are still allowed -/
def Box (b : Addr) (n : Nat) (H : Hp) : Prop := ∃ i j k : Int, H b = some (.lst [.int i, .int j, .int k]) ∧ 0 ≤ j ∧ j < 2 ^ 62 ∧ 0 ≤ k ∧ k + n ≤ 2 ^ 40
theorem Box.less {b : Addr} {n m : Nat} (h : Box b n H) (l : m ≤ n) : Box b m H := by
  obtain ⟨i, j, k, h, a, c, d, e⟩ := h
  exact ⟨i, j, k, h, a, c, d, by omega⟩
theorem Box.cell {b : Addr} {n : Nat} (h : Box b n H) : ∃ xs, H b = some (.lst xs) := by
  obtain ⟨i, j, k, h, _⟩ := h
  exact ⟨_, h⟩
def boxR (b : Addr) (n : Nat) : RS E := ⟨[b], Box b n, fun H H' k ⟨i, j, l, h, r⟩ => ⟨i, j, l, k _ _ h (.inl (.head _)), r⟩, false⟩
/-- a draw, or several -/
theorem SS.draw {b : Addr} {m n : Nat} {H' : Hp} (s : SS E H0 S0 H F R) (p : Pick R (boxR b m) R' (boxR b n)) (f : Fr [b] H H') (h : Box b n H') : SS E H0 S0 H' F R' :=
  s.upd p rfl f h (List.nodup_cons.mpr ⟨List.not_mem_nil, List.nodup_nil⟩) (fun a h => .inl h) fun a ha => by
    cases ha with
    | head => obtain ⟨xs, e⟩ := h.cell; exact ⟨_, e, fun z => z⟩
    | tail _ z => cases z
/-- draws that end in a new list -/
theorem SS.drawN {b q : Addr} {m n : Nat} {H' : Hp} {o : HO} (s : SS E H0 S0 H F R) (p : Pick R (boxR b m) R' (boxR b n)) (f : Fr [b] H H') (h : Box b n H') (hq : H q = none) (hc : H' q = some o) (no : ¬ Imm E.MC o) : SS E H0 S0 H' F (cellR q o :: R') := by
  have s' := s.draw p f h
  obtain ⟨xs, eb⟩ := (show Box b m H from s.r _ p.mem).cell
  have hqf : q ∉ fps R' := fun z => by
    rcases fps_pick p q z with z | z
    · rw [List.mem_singleton.mp z, eb] at hq; cases hq
    · obtain ⟨u, hu, _⟩ := s.tr q z
      rw [hu] at hq; cases hq
  refine ⟨s'.f, fun x hx => ?_, List.nodup_cons.mpr ⟨hqf, s'.nd⟩, fun a ha => ?_, s'.fr, fun a ha => ?_⟩
  · cases hx with
    | head => exact hc
    | tail _ hx => exact s'.r x hx
  · rcases List.mem_cons.mp ha with rfl | ha
    · exact ⟨o, hc, no⟩
    · exact s'.tr a ha
  · rcases List.mem_cons.mp ha with rfl | ha
    · by_cases hs : a ∈ S0
      · exact .inl hs
      · refine .inr ?_
        cases e : H0 a with
        | none => rfl
        | some u => rw [s.fr a u hs e] at hq; cases hq
    · exact s'.ow a ha
theorem SS.box {b : Addr} {n : Nat} (s : SS E H0 S0 H F R) (m : boxR b n ∈ R) : Box b n H := s.r _ m
/-- at the entry: a box -/
theorem SS.box1 {b : Addr} {n : Nat} (h : Box b n H) : SS E H [b] H [] [boxR b n] := SS.start (E := E) (F := []) (R := [boxR b n]) (fun _ h => nomatch h) (fun x hx => by
    cases hx with
    | head => exact h
    | tail _ z => cases z) (List.nodup_cons.mpr ⟨List.not_mem_nil, List.nodup_nil⟩) fun a ha => by
    cases ha with
    | head => obtain ⟨xs, e⟩ := h.cell; exact ⟨_, e, fun z => z⟩
    | tail _ z => cases z
/-- xs.pop(i) -/
theorem pop_ss {l : Addr} {xs : List V} {i : Int} {j : Nat} {y : V} (s : SS E H0 S0 H F R) (p : Pick R (lstR l xs) R' (lstR l (xs.eraseIdx j))) (hi : i = (j : Int)) (hj : xs[j]? = some y) (hb : j < 2 ^ 62)
    (k : ∀ H', SS E H0 S0 H' F R' → Q y H') : rPopAt (.ref l) [.int i] H Q := by
  have hlt := (List.getElem?_eq_some_iff.mp hj).1
  refine ⟨l, xs, i, j, y, rfl, rfl, s.cell p.mem, by omega, by omega, ?_, hj, k _ (s.put p (fun z => z))⟩
  subst hi
  unfold seqIndex?
  simp
  omega
end
end G
/-! trees as the laws draw them -/
namespace G
open PySem PySem.Spec PyProof.Rows L2
/-- a look (false), a test (true), of these kinds and marks -/
def Tr.wf (ks ms : List Str) : Bool → Tr → Prop
  | false, .z w => w = "here"
  | true, .z w => w = "always"
  | false, .st k d => k ∈ ks ∧ (d = 1 ∨ d = -1)
  | true, .st _ _ => False
  | true, .mk k => k ∈ ms
  | false, .mk _ => False
  | true, .one w a => (w = "found" ∧ Tr.wf ks ms false a) ∨ (w = "not" ∧ Tr.wf ks ms true a)
  | false, .one _ _ => False
  | false, .two w a b => ((w = "then" ∨ w = "or" ∨ w = "and") ∧ Tr.wf ks ms false a ∧ Tr.wf ks ms false b) ∨ (w = "when" ∧ Tr.wf ks ms false a ∧ Tr.wf ks ms true b)
  | true, .two w a b => (w = "same" ∧ Tr.wf ks ms false a ∧ Tr.wf ks ms false b) ∨ ((w = "and" ∨ w = "or" ∨ w = "xor") ∧ Tr.wf ks ms true a ∧ Tr.wf ks ms true b)
/-- .. of at most n leaves -/
structure Gd (ks ms : List Str) (b : Bool) (n : Nat) (t : Tr) : Prop where
  wf : t.wf ks ms b
  dep : t.dep ≤ 3 * n + (if b then 1 else 0) - (if b then 0 else 1)
  st : (t.told "step").length ≤ 2 * n
  tm : (t.told "marked").length ≤ n
  pos : 1 ≤ n
theorem okw_of {w : Str} (h : w ∈ ([Str.ofString "here", Str.ofString "always", Str.ofString "found", Str.ofString "not", Str.ofString "then", Str.ofString "or", Str.ofString "and", Str.ofString "when", Str.ofString "same", Str.ofString "xor"] : List Str)) : Tr.okw w := by
  unfold Tr.okw
  have key : ∀ v ∈ ([Str.ofString "here", Str.ofString "always", Str.ofString "found", Str.ofString "not", Str.ofString "then", Str.ofString "or", Str.ofString "and", Str.ofString "when", Str.ofString "same", Str.ofString "xor"] : List Str), v ≠ Str.ofString "step" ∧ v ≠ Str.ofString "marked" ∧ PyData.strOk v = true := by decide +kernel
  exact key w h
theorem Tr.wf_ok {ks ms : List Str} (hk : ∀ k ∈ ks, PyData.strOk k = true) (hm : ∀ k ∈ ms, PyData.strOk k = true) : ∀ (t : Tr) (b : Bool), t.wf ks ms b → t.ok := by
  intro t
  induction t with
  | z w => intro b h; cases b <;> (obtain rfl := (show w = _ from h); exact okw_of (by simp))
  | st k d => intro b h; cases b with
    | false => exact hk k h.1
    | true => exact h.elim
  | mk k => intro b h; cases b with
    | false => exact h.elim
    | true => exact hm k h
  | one w a ih => intro b h; cases b with
    | false => exact h.elim
    | true => rcases h with ⟨rfl, h⟩ | ⟨rfl, h⟩ <;> exact ⟨okw_of (by simp), ih _ h⟩
  | two w a b iha ihb => intro c h; cases c with
    | false => rcases h with ⟨rfl | rfl | rfl, h1, h2⟩ | ⟨rfl, h1, h2⟩ <;> exact ⟨okw_of (by simp), iha _ h1, ihb _ h2⟩
    | true => rcases h with ⟨rfl, h1, h2⟩ | ⟨rfl | rfl | rfl, h1, h2⟩ <;> exact ⟨okw_of (by simp), iha _ h1, ihb _ h2⟩
theorem dp_strs {K : PySem.W.Frag} {H : Hp} : ∀ ks : List Str, DpAll K H (ks.map V.str) (ks.map PyData.str)
  | [] => .nil
  | k :: r => .cons (.str k) (dp_strs r)
theorem shaped_strs {ks : List Str} (h : ∀ k ∈ ks, PyData.strOk k = true) : SeqAt.shaped (.list (ks.map PyData.str)) = true := by
  have a : ∀ ks : List Str, (∀ k ∈ ks, PyData.strOk k = true) → PyData.canLayAll0 (ks.map PyData.str) = true := by
    intro ks
    induction ks with
    | nil => intro _; rfl
    | cons k r ih =>
      intro h
      simp [PyData.canLayAll0, PyData.canLay0]
      exact ⟨h k (.head _), ih fun x hx => h x (.tail _ hx)⟩
  have b : ∀ ks : List Str, PyData.depthAll (ks.map PyData.str) = 0 := by
    intro ks
    induction ks with
    | nil => rfl
    | cons k r ih => simp [PyData.depthAll, PyData.depth, ih]
  unfold SeqAt.shaped
  simp [PyData.canLay0, PyData.depth, a ks h, b ks]
/-- names == [] -/
theorem wo_eqE {Γ : Gm} {H : Hp} {Q : VK} {p q : Addr} {ks : List Str} (hp : SqL Γ.K H p (ks.map V.str)) (hq : SqL Γ.K H q []) (ok : ∀ k ∈ ks, PyData.strOk k = true) (k : Q (.bl ks.isEmpty) H) : WO Γ (compareOp .Eq) (.ref p) (.ref q) H Q :=
  ⟨rEqD Γ.K, fun X g => (by have := op_eqD (X := X) (Nat.lt_of_le_of_lt (Nat.le_refl _) g.hu64); rw [g.K] at this; exact this), _, _, .lst hp (dp_strs ks), .lst hq .nil, shaped_strs ok, by decide, by
    have e : PyData.eqv (.list (ks.map PyData.str)) (.list []) = ks.isEmpty := by cases ks <;> simp [PyData.eqv, PyData.eqvAll]
    rw [e]; exact k⟩
end G
/-! ascending texts; what stands in a tree's tuple; equality of lists of trees -/
namespace G
open PySem PySem.Spec PyProof.Rows L2
def leS (a b : Str) : Prop := ¬ b.cps.toList < a.cps.toList
theorem leS_of {a b : Str} (h : ltCps b.cps.toList a.cps.toList = false) : leS a b := by
  rw [ltCps_eq] at h
  exact of_decide_eq_false h
theorem leS_trans {a b c : Str} (h : leS a b) (k : leS b c) : leS a c := List.le_trans (l₁ := a.cps.toList) h k
theorem str_ext {a b : Str} (h : a.cps.toList = b.cps.toList) : a = b := by
  obtain ⟨x⟩ := a
  obtain ⟨y⟩ := b
  congr 1
  exact Array.toList_inj.mp h
theorem leS_anti {a b : Str} (h : leS a b) (k : leS b a) : a = b := str_ext (List.le_antisymm h k)
theorem rising_le : ∀ {x : Str} {r : List Str}, risingS x r = true → ∀ z ∈ r, leS x z
  | _, [], _, z, hz => nomatch hz
  | x, y :: r, h, z, hz => by
    simp only [risingS, Bool.and_eq_true, Bool.not_eq_true'] at h
    have h1 := leS_of h.1
    cases hz with
    | head => exact h1
    | tail _ hz => exact leS_trans h1 (rising_le h.2 z hz)
theorem rising_pw : ∀ {x : Str} {r : List Str}, risingS x r = true → (x :: r).Pairwise leS
  | _, [], _ => List.pairwise_singleton _ _
  | x, y :: r, h => by
    have h' := h
    simp only [risingS, Bool.and_eq_true, Bool.not_eq_true'] at h
    exact List.pairwise_cons.mpr ⟨rising_le h', rising_pw h.2⟩
theorem sorted_pw : ∀ {l : List Str}, sortedS l = true → l.Pairwise leS
  | [], _ => .nil
  | _ :: _, h => rising_pw h
/-- two ascending lists of the same texts, each once -/
theorem asc_eq {xs ys : List Str} (hx : xs.Pairwise leS) (hy : ys.Pairwise leS) (nx : xs.Nodup) (ny : ys.Nodup) (h : ∀ z, z ∈ xs ↔ z ∈ ys) : xs = ys :=
  ((List.perm_ext_iff_of_nodup nx ny).mpr h).eq_of_pairwise (fun _ _ _ _ => leS_anti) hx hy
theorem perm_sorted_eq {xs ys : List Str} (hx : sortedS xs = true) (hy : sortedS ys = true) (p : xs.Perm ys) : xs = ys :=
  p.eq_of_pairwise (fun _ _ _ _ => leS_anti) (sorted_pw hx) (sorted_pw hy)
section
variable {K : PySem.W.Frag} {H : Hp}
/-- an item of the tuple: no tree, or the next tree -/
theorem Rest.at2 {r : List V} {ts : List Tr} (h : Rest K H r ts) : ∀ {i : Nat} {x : V}, r[i]? = some x → (((∃ z, x = .str z) ∨ ∃ j, x = .int j)) ∨ ∃ p t, x = .ref p ∧ TrP K H t p ∧ ts[(r.take i).countP isRef]? = some t := by
  induction h with
  | nil => intro i x e; simp at e
  | str _ ih => intro i x e; cases i with
    | zero => simp at e; exact .inl (.inl ⟨_, e.symm⟩)
    | succ i => simpa [isRef] using ih e
  | int _ ih => intro i x e; cases i with
    | zero => simp at e; exact .inl (.inr ⟨_, e.symm⟩)
    | succ i => simpa [isRef] using ih e
  | ref hp _ ih => intro i x e; cases i with
    | zero => simp at e; exact .inr ⟨_, _, e.symm, hp, by simp⟩
    | succ i =>
      rcases ih e with h | ⟨q, s, e2, h2, h3⟩
      · exact .inl h
      · refine .inr ⟨q, s, e2, h2, ?_⟩
        rw [List.take_succ_cons, List.countP_cons_of_pos rfl]
        exact h3
theorem Rest.cnt {r : List V} {ts : List Tr} (h : Rest K H r ts) : r.countP isRef = ts.length := by
  induction h with
  | nil => rfl
  | str _ ih => simpa [isRef] using ih
  | int _ ih => simpa [isRef] using ih
  | ref _ _ ih => rw [List.countP_cons_of_pos rfl, ih, List.length_cons]
theorem take_cnt {r : List V} {i : Nat} {x : V} (h : r[i]? = some x) : (r.take (i + 1)).countP isRef = (r.take i).countP isRef + if isRef x then 1 else 0 := by
  rw [List.take_add_one, h, List.countP_append]
  cases x <;> simp [isRef]
/-- the names of the first n trees within -/
def Tr.toldN (w : Str) (t : Tr) (n : Nat) : List Str := t.top w ++ ((t.subs.take n).map (Tr.told w)).flatten
theorem Tr.toldN_0 (w : Str) (t : Tr) : t.toldN w 0 = t.top w := by simp [Tr.toldN]
theorem Tr.toldN_s {w : Str} {t s : Tr} {n : Nat} (h : t.subs[n]? = some s) : t.toldN w (n + 1) = t.toldN w n ++ s.told w := by
  unfold Tr.toldN
  rw [List.take_add_one, h]
  simp
theorem Tr.toldN_all (w : Str) (t : Tr) : t.toldN w t.subs.length = t.told w := by
  unfold Tr.toldN
  rw [List.take_length, Tr.told_all]
theorem Tr.toldN_le (w : Str) (t : Tr) (n : Nat) : (t.toldN w n).length ≤ (t.told w).length := Tr.told_take w t n
theorem Tr.told_steps : ∀ t : Tr, (t.told "step").length = t.steps
  | .z _ => rfl
  | .st k d => by simp [Tr.told, Tr.steps]
  | .mk k => by
    show (if (Str.ofString "marked") = (Str.ofString "step") then [k] else []).length = 0
    rw [if_neg (by decide +kernel)]
    rfl
  | .one _ a => Tr.told_steps a
  | .two _ a b => by
    show (a.told "step" ++ b.told "step").length = a.steps + b.steps
    rw [List.length_append, Tr.told_steps a, Tr.told_steps b]
/-- names and names are equal -/
theorem eqvAll_strs : ∀ xs ys : List Str, PyData.eqvAll (xs.map PyData.str) (ys.map PyData.str) = decide (xs = ys)
  | [], [] => by simp [PyData.eqvAll]
  | [], _ :: _ => by simp [PyData.eqvAll]
  | _ :: _, [] => by simp [PyData.eqvAll]
  | x :: xs, y :: ys => by
    have ih := eqvAll_strs xs ys
    have e : PyData.eqvAll ((x :: xs).map PyData.str) ((y :: ys).map PyData.str) = (decide (x = y) && decide (xs = ys)) := by
      rw [← ih]
      simp only [List.map_cons, PyData.eqvAll, PyData.eqv]
      congr 1
    rw [e]
    by_cases h : x = y <;> by_cases k : xs = ys <;> simp [h, k]
theorem shaped_strT {ks : List Str} (h : ∀ k ∈ ks, PyData.strOk k = true) : SeqAt.shaped (.tuple (ks.map PyData.str)) = true := by
  have := shaped_strs h
  unfold SeqAt.shaped at this ⊢
  simpa [PyData.canLay0, PyData.depth] using this
theorem wo_eqST {Γ : Gm} {Q : VK} {p q : Addr} {xs ys : List Str} (hp : SqT Γ.K H p (xs.map V.str)) (hq : SqT Γ.K H q (ys.map V.str)) (ox : ∀ k ∈ xs, PyData.strOk k = true) (oy : ∀ k ∈ ys, PyData.strOk k = true) (k : Q (.bl (decide (xs = ys))) H) : WO Γ (compareOp .Eq) (.ref p) (.ref q) H Q :=
  ⟨rEqD Γ.K, fun X g => (by have := op_eqD (X := X) (Nat.lt_of_le_of_lt (Nat.le_refl _) g.hu64); rw [g.K] at this; exact this), _, _, .tup hp (dp_strs xs), .tup hq (dp_strs ys), shaped_strT ox, shaped_strT oy, by
    have e : PyData.eqv (.tuple (xs.map PyData.str)) (.tuple (ys.map PyData.str)) = decide (xs = ys) := by rw [tk, eqvAll_strs]
    rw [e]; exact k⟩
/-- lists of trees are equal -/
theorem eqvAll_trs : ∀ xs ys : List Tr, PyData.eqvAll (xs.map Tr.data) (ys.map Tr.data) = decide (xs = ys)
  | [], [] => by simp [PyData.eqvAll]
  | [], _ :: _ => by simp [PyData.eqvAll]
  | _ :: _, [] => by simp [PyData.eqvAll]
  | x :: xs, y :: ys => by
    have ih := eqvAll_trs xs ys
    have e : PyData.eqvAll ((x :: xs).map Tr.data) ((y :: ys).map Tr.data) = (decide (x = y) && decide (xs = ys)) := by
      rw [← ih, ← Tr.eqv x y]
      simp only [List.map_cons, PyData.eqvAll]
    rw [e]
    by_cases h : x = y <;> by_cases k : xs = ys <;> simp [h, k]
theorem TrPs.dp {ts : List Tr} {ps : List Addr} (h : TrPs K H ts ps) : DpAll K H (ps.map V.ref) (ts.map Tr.data) := by
  induction h with
  | nil => exact .nil
  | cons a _ ih => exact .cons a.dp ih
theorem shaped_trs {ts : List Tr} (o : ∀ t ∈ ts, t.ok) (d : ∀ t ∈ ts, t.dep ≤ 63) : SeqAt.shaped (.list (ts.map Tr.data)) = true := by
  have a : ∀ ts : List Tr, (∀ t ∈ ts, t.ok) → PyData.canLayAll0 (ts.map Tr.data) = true := by
    intro ts
    induction ts with
    | nil => intro _; rfl
    | cons k r ih =>
      intro h
      simp only [List.map_cons, PyData.canLayAll0, Bool.and_eq_true]
      exact ⟨Tr.lay (h k (.head _)), ih fun x hx => h x (.tail _ hx)⟩
  have b : ∀ ts : List Tr, (∀ t ∈ ts, t.dep ≤ 63) → PyData.depthAll (ts.map Tr.data) ≤ 63 := by
    intro ts
    induction ts with
    | nil => intro _; simp [PyData.depthAll]
    | cons k r ih =>
      intro h
      have h1 := h k (.head _)
      have h2 := ih fun x hx => h x (.tail _ hx)
      simp only [List.map_cons, PyData.depthAll, Tr.depth]
      omega
  have h1 := a ts o
  have h2 := b ts d
  unfold SeqAt.shaped
  simp [PyData.canLay0, PyData.depth, h1]
  omega
theorem wo_eqTs {Γ : Gm} {Q : VK} {p q : Addr} {ss ts : List Tr} {ps qs : List Addr} (hp : SqL Γ.K H p (ps.map V.ref)) (hq : SqL Γ.K H q (qs.map V.ref)) (hs : TrPs Γ.K H ss ps) (ht : TrPs Γ.K H ts qs) (os : ∀ t ∈ ss, t.ok) (ot : ∀ t ∈ ts, t.ok) (ds : ∀ t ∈ ss, t.dep ≤ 63) (dt : ∀ t ∈ ts, t.dep ≤ 63)
    (k : Q (.bl (decide (ss = ts))) H) : WO Γ (compareOp .Eq) (.ref p) (.ref q) H Q :=
  ⟨rEqD Γ.K, fun X g => (by have := op_eqD (X := X) (Nat.lt_of_le_of_lt (Nat.le_refl _) g.hu64); rw [g.K] at this; exact this), _, _, .lst hp hs.dp, .lst hq ht.dp, shaped_trs os ds, shaped_trs ot dt, by
    have e : PyData.eqv (.list (ss.map Tr.data)) (.list (ts.map Tr.data)) = decide (ss = ts) := by
      have : PyData.eqv (.list (ss.map Tr.data)) (.list (ts.map Tr.data)) = PyData.eqvAll (ss.map Tr.data) (ts.map Tr.data) := by simp [PyData.eqv]
      rw [this, eqvAll_trs]
    rw [e]; exact k⟩
/-- x not in xs, both of names -/
theorem wo_notInS {Γ : Gm} {Q : VK} {z : Str} {p : Addr} {xs : List Str} (hp : SqL Γ.K H p (xs.map V.str)) (k : Q (.bl (!decide (z ∈ xs))) H) : WO Γ (compareOp .NotIn) (.str z) (.ref p) H Q :=
  ⟨rIn Γ.K true, fun X g => (by have := op_notIn_seq (X := X); rw [g.K] at this; exact this), p, xs.map V.str, rfl, .inl hp, rfl, by rw [List.all_map]; exact List.all_eq_true.mpr fun _ _ => rfl, by
    have e : inV (.str z) (xs.map V.str) = decide (z ∈ xs) := by
      unfold inV
      rw [List.any_map]
      by_cases h : z ∈ xs
      · rw [decide_eq_true h]
        exact List.any_eq_true.mpr ⟨z, h, by simp [eqV]⟩
      · rw [decide_eq_false h, List.any_eq_false]
        intro y hy e
        simp [eqV] at e
        exact h (e ▸ hy)
    rw [if_pos rfl, e]
    exact k⟩
end
end G
namespace G
open PySem PySem.Spec PyProof.Rows L2
/-- a comprehension's scope within another one's -/
def relS (scope S : Scope) : Scope := { scope with names := scope.names.map fun (n, k) => if (k == .free && S.kind == .function && S.names.lookup n == some .cell) then (n, .cell) else (n, k) }
theorem blkIn {N : List Str} {S : Scope} {X : Cx} {s : Shared} {H : Hp} {scope sc2 : Scope} {C : Addr} {cl : List (Str × Addr)} {fp : List Addr} {own : List (Str × Nat)} (e : X.N = N) (e2 : X.env.scope = S) (h : blkC N (relS scope S) sc2 own = true) :
    BlkOk (X.blk s H scope (compEnvC scope cl C X.env) fp).N (X.blk s H scope (compEnvC scope cl C X.env) fp).env.scope sc2 own := by
  have h' : blkC X.N (relabel scope X.env) sc2 own = true := by rw [e]; subst e2; exact h
  exact blkOk_by h'
abbrev E1 (Γ : Gm) : Hv := ⟨Γ.K, fun _ => False⟩
theorem Tr.told_ok : ∀ {t : Tr}, t.ok → ∀ (w y : Str), y ∈ t.told w → PyData.strOk y = true
  | .z _, _, w, y, h => nomatch h
  | .st k d, ok, w, y, h => by
    have h2 : y ∈ (if (Str.ofString "step") = w then [k] else []) := h
    split at h2
    · rw [List.mem_singleton.mp h2]; exact ok
    · cases h2
  | .mk k, ok, w, y, h => by
    have h2 : y ∈ (if (Str.ofString "marked") = w then [k] else []) := h
    split at h2
    · rw [List.mem_singleton.mp h2]; exact ok
    · cases h2
  | .one _ a, ok, w, y, h => Tr.told_ok (t := a) ok.2 w y h
  | .two _ a b, ok, w, y, h => by
    have h2 : y ∈ a.told w ++ b.told w := h
    rcases List.mem_append.mp h2 with h | h
    · exact Tr.told_ok ok.2.1 w y h
    · exact Tr.told_ok ok.2.2 w y h
section
variable {E : Hv} {H0 H : Hp} {S0 : List Addr} {F : List (PF E)} {R : List (RS E)} {p : Addr} {o : HO}
/-- one more list that is read -/
theorem SS.ro (s : SS E H0 S0 H F R) (h : H p = some o) (n : ¬ Imm E.MC o) (new : p ∉ fps R) : SS E H0 S0 H F (cellR p o true :: R) where
  f := s.f
  r := fun x hx => by cases hx with
    | head => exact h
    | tail _ hx => exact s.r x hx
  nd := List.nodup_cons.mpr ⟨new, s.nd⟩
  tr := fun a ha => by
    rcases List.mem_cons.mp ha with rfl | ha
    · exact ⟨o, h, n⟩
    · exact s.tr a ha
  fr := s.fr
  ow := fun a ha => s.ow a ha
end
end G
/-! powers and ways back of trees; Looks and Tests beside one another -/
namespace G
open PySem PySem.Spec PyProof.Rows L2
theorem Tr.grp_dep (t : Tr) : ∀ n, (t.grp n).dep ≤ t.dep + n
  | 0 => by
    have : 1 ≤ t.dep := by cases t <;> simp [Tr.dep]
    simp [Tr.grp, Tr.dep]; omega
  | 1 => by simp [Tr.grp]
  | n + 2 => by
    have := Tr.grp_dep t (n + 1)
    simp only [Tr.grp, Tr.dep]
    omega
theorem Tr.grp_ok {t : Tr} (o : t.ok) : ∀ n, (t.grp n).ok
  | 0 => okw_of (by simp)
  | 1 => o
  | n + 2 => ⟨okw_of (by simp), Tr.grp_ok o (n + 1), o⟩
theorem Tr.grp_walk {t : Tr} (w : t.walk) : ∀ n, (t.grp n).walk
  | 0 => rfl
  | 1 => w
  | n + 2 => ⟨rfl, Tr.grp_walk w (n + 1), w⟩
theorem Tr.grp_steps (t : Tr) : ∀ n, (t.grp n).steps = n * t.steps
  | 0 => by simp [Tr.grp, Tr.steps]
  | 1 => by simp [Tr.grp]
  | n + 2 => by
    have := Tr.grp_steps t (n + 1)
    simp only [Tr.grp, Tr.steps, this, Nat.add_mul]
    omega
theorem Tr.back_steps : ∀ t : Tr, t.back.steps = t.steps
  | .z _ => rfl
  | .st _ _ => rfl
  | .mk _ => rfl
  | .one _ _ => rfl
  | .two _ a b => by simp only [Tr.back, Tr.steps, Tr.back_steps a, Tr.back_steps b]; omega
theorem Tr.back_back : ∀ t : Tr, t.back.back = t
  | .z _ => rfl
  | .st _ _ => by simp [Tr.back]
  | .mk _ => rfl
  | .one _ _ => rfl
  | .two _ a b => by simp only [Tr.back, Tr.back_back a, Tr.back_back b]
theorem Tr.back_walk : ∀ {t : Tr}, t.walk → t.back.walk
  | .z _, h => h
  | .st _ _, h => h
  | .two _ a b, h => ⟨h.1, Tr.back_walk h.2.2, Tr.back_walk h.2.1⟩
theorem Tr.back_dep : ∀ t : Tr, t.back.dep = t.dep
  | .z _ => rfl
  | .st _ _ => rfl
  | .mk _ => rfl
  | .one _ _ => rfl
  | .two _ a b => by simp only [Tr.back, Tr.dep, Tr.back_dep a, Tr.back_dep b]; omega
theorem Tr.back_ok : ∀ {t : Tr}, t.ok → t.back.ok
  | .z _, h => h
  | .st _ _, h => h
  | .mk _, h => h
  | .one _ _, h => h
  | .two _ a b, h => ⟨h.1, Tr.back_ok h.2.2, Tr.back_ok h.2.1⟩
theorem Tr.walk_ok {ks : List Str} (h : ∀ k ∈ ks, PyData.strOk k = true) {t : Tr} {b : Bool} {ms : List Str} (hm : ∀ k ∈ ms, PyData.strOk k = true) (w : t.wf ks ms b) : t.ok := Tr.wf_ok h hm t b w
/-- no Look's tree is a Test's -/
theorem Tr.wf_ne {ks ms ks' ms' : List Str} : ∀ {t : Tr}, t.wf ks ms false → t.wf ks' ms' true → False
  | .z w, h, k => by
    have h : w = "here" := h
    have k : w = "always" := k
    exact absurd (h.symm.trans k) (by decide +kernel)
  | .st _ _, h, k => k
  | .mk _, h, k => h
  | .one _ _, h, k => h
  | .two w a b, h, k => by
    rcases h with ⟨h, ha, _⟩ | ⟨h, ha, _⟩
    · rcases k with ⟨k, _, _⟩ | ⟨_, ka, _⟩
      · rcases h with h | h | h <;> rw [k] at h <;> exact absurd h (by decide +kernel)
      · exact Tr.wf_ne ha ka
    · rcases k with ⟨k, _, _⟩ | ⟨k, _, _⟩
      · rw [k] at h; exact absurd h (by decide +kernel)
      · rcases k with k | k | k <;> rw [k] at h <;> exact absurd h (by decide +kernel)
theorem Gd.mono {ks ms : List Str} {b : Bool} {n m : Nat} {t : Tr} (g : Gd ks ms b n t) (h : n ≤ m) : Gd ks ms b m t :=
  ⟨g.wf, by have := g.dep; have := g.pos; cases b <;> simp only [Bool.false_eq_true, if_false, if_true] at * <;> omega, by have := g.st; omega, by have := g.tm; omega, by have := g.pos; omega⟩
theorem sub_nil {α : Type} {F : List α} : ∀ y ∈ ([] : List α), y ∈ F := fun _ h => nomatch h
theorem sub_cons {α : Type} {x : α} {F' F : List α} (h : x ∈ F) (k : ∀ y ∈ F', y ∈ F) : ∀ y ∈ x :: F', y ∈ F := fun y hy => by
  cases hy with
  | head => exact h
  | tail _ hy => exact k y hy
section
variable {E : Hv}
theorem fps_subl {R R' : List (RS E)} (h : R'.Sublist R) : (fps R').Sublist (fps R) := by
  induction h with
  | slnil => exact .slnil
  | cons r _ ih => exact ih.trans (List.sublist_append_right _ _)
  | cons_cons r _ ih => exact (List.Sublist.refl _).append ih
theorem ows_subl {R R' : List (RS E)} (h : R'.Sublist R) : (ows R').Sublist (ows R) := by
  induction h with
  | slnil => exact .slnil
  | cons r _ ih => exact ih.trans (List.sublist_append_right _ _)
  | cons_cons r _ ih => exact (List.Sublist.refl _).append ih
/-- fewer things -/
theorem SS.subl {H0 H : Hp} {S0 : List Addr} {F : List (PF E)} {R R' : List (RS E)} (s : SS E H0 S0 H F R) (h : R'.Sublist R) : SS E H0 S0 H F R' :=
  ⟨s.f, fun x hx => s.r x (h.subset hx), (fps_subl h).nodup s.nd, fun a ha => s.tr a ((fps_subl h).subset ha), s.fr, fun a ha => s.ow a ((ows_subl h).subset ha)⟩
end
/-- what the text has of Look and Test -/
structure KE (Γ : Gm) (CL CT : Addr) : Prop where
  L : KF Γ "Look" CL
  T : KF Γ "Test" CT
  nLL : PySem.W.notFirst Γ.K CL (.ref CL) = true
  nLT : PySem.W.notFirst Γ.K CL (.ref CT) = true
  nTL : PySem.W.notFirst Γ.K CT (.ref CL) = true
  nTT : PySem.W.notFirst Γ.K CT (.ref CT) = true
  nTt : PySem.W.notFirst Γ.K CT (.type "tuple") = true
  LT : PySem.W.kitOne Γ.K (.ref CL) (.ref CT) = some false
  TL : PySem.W.kitOne Γ.K (.ref CT) (.ref CL) = some false
/-- .. of powers -/
structure KPw (Γ : Gm) (C : Addr) : Prop where
  r : ∃ rc, PySem.W.findIn Γ.K (.ref C) (dunderR Operator.Pow.info.2) = some rc ∧ (rc = none ∨ ∃ g : Addr, rc = some (.ref g))
  a : ∃ fo, PySem.W.findIn Γ.K (.type "int") (PySem.dunder Operator.Pow.info.2) = some fo
  b : ∃ ro, PySem.W.findIn Γ.K (.type "int") (dunderR Operator.Pow.info.2) = some ro
  s : PySem.W.subIn Γ.K (.type "int") (.ref C) = some false
/-- .. of >>= -/
structure KIn (Γ : Gm) (C : Addr) : Prop where
  i : ∃ cd, PySem.W.clsIn Γ.K C = some cd ∧ ∀ c ∈ cd.mro, PySem.W.findIn Γ.K c (dunderI Operator.RShift.info.2) = some none
end G
/-! what the top leaves: defs by their places, facts by Bools -/
namespace G
open PySem PySem.Spec PyProof.Rows L2
/-- a def: where it stands, its names, its statement, its defaults -/
structure DE where
  loc : PySem.W.Frag → Addr
  name : Str
  qual : Str
  st : Stmt
  dfl : List V := []
def DE.ok (K : PySem.W.Frag) (d : DE) : Bool := PySem.W.keepIn K (.ref (d.loc K)) && (match K.lookup (d.loc K) with
  | some ⟨_, _, .func fd, _⟩ => PySem.W.codeIn K fd.code d.qual && He.dflB K fd.defaults d.dfl
  | _ => false)
def DE.fn (K : PySem.W.Frag) (d : DE) : He.FnW := match K.lookup (d.loc K) with
  | some ⟨_, _, .func fd, _⟩ => some (fd.name, fd.qualname, fd.params, fd.body, fd.scope, fd.globals, fd.closure, fd.builtins)
  | _ => none
def DE.val (d : DE) : He.FnW := some (d.name, d.qual, defArgs d.st, .stmts (defBody d.st), defScope d.st, mainGlobals, [], builtinsNs)
theorem DE.funD {K : PySem.W.Frag} {d : DE} (e : d.fn K = d.val) (c : d.ok K = true) : ∃ fd, FunD K d.name d.qual (defArgs d.st) (defBody d.st) (defScope d.st) d.dfl [] (d.loc K) fd := by
  obtain ⟨kp, c2⟩ := He.ba c
  unfold DE.fn at e
  cases q : K.lookup (d.loc K) with
  | none => rw [q] at c2; cases c2
  | some o =>
    obtain ⟨oc, od, dt, osl⟩ := o
    rw [q] at c2 e
    cases dt with
    | func fd =>
      obtain ⟨n1, n2, n3, n4, n5, n6, n7, n8, n9, n10, n11, n12, n13, n14, n15⟩ := fd
      have e2 : (some (n1, n2, n3, n4, n5, n6, n7, n15) : He.FnW) = some (d.name, d.qual, defArgs d.st, .stmts (defBody d.st), defScope d.st, mainGlobals, [], builtinsNs) := e
      simp only [Option.some.injEq, Prod.mk.injEq] at e2
      obtain ⟨h1, h2, h3, h4, h5, h6, h7, h8⟩ := e2
      subst h1 h2 h3 h4 h5 h6 h7 h8
      obtain ⟨k1, k2⟩ := He.ba (show (PySem.W.codeIn K n13 d.qual && He.dflB K n8 d.dfl) = true from c2)
      exact ⟨_, ⟨oc, od, n8, n9, n10, n11, n12, n13, n14, osl, rfl, q, k1, He.dflB_ok k2, .inl rfl⟩, kp⟩
    | _ => cases c2
theorem fun_of {K : PySem.W.Frag} {x q : Str} {st : Stmt} {f : Addr} {fd : FuncData} (F : FunD K x q (defArgs st) (defBody st) (defScope st) [] [] f fd) : L2.Fun K x q st f fd := by
  obtain ⟨oc, od, dV, kV, doc, pm, an, cdv, ct, osl, e, lk, hcd, hD, _⟩ := F.ex
  rcases hD with ⟨_, rfl⟩ | ⟨h, _⟩
  · exact ⟨⟨oc, od, kV, doc, pm, an, cdv, ct, osl, e, lk, hcd⟩, F.kp⟩
  · exact absurd rfl h
/-- a property's getter -/
def ppA (K : PySem.W.Frag) (C m : Str) : Addr := He.ma K (He.ga K C) m
def pgA (K : PySem.W.Frag) (C m : Str) : Addr := match PySem.W.recIn K (ppA K C m) "property" with
  | some (.ref g :: _) => g
  | _ => 0
abbrev AlE : Type := Bool × List He.FnW
def obsE (ex : List (PySem.W.Frag → Bool)) (fn : List DE) (K : PySem.W.Frag) : AlE := ((ex.all fun f => f K) && fn.all fun d => d.ok K, fn.map fun d => d.fn K)
def valE (fn : List DE) : AlE := (true, fn.map DE.val)
def SaysE (ex : List (PySem.W.Frag → Bool)) (fn : List DE) (K : PySem.W.Frag) : Prop := obsE ex fn K = valE fn
def obsEG (n : Nat) (ex : List (PySem.W.Frag → Bool)) (fn : List DE) (g : Addr → Option Obj) : AlE := obsE ex fn (He.frG g (He.asD g n))
def hookE (n : Nat) (ex : List (PySem.W.Frag → Bool)) (fn : List DE) : PySem.W.Hook where
  α := AlE
  obs := fun s => obsEG n ex fn s.heap.get?
  val := fun _ => valE fn
  says := fun _ h => ∃ K : PySem.W.Frag, K.In h ∧ SaysE ex fn K
  of := fun _ _ e => ⟨_, He.frG_in, e⟩
  keeps := fun _ _ _ ⟨K, hK, c⟩ k => ⟨K, PySem.W.Frag.In.keeps hK k, c⟩
theorem obsEG_eq {n : Nat} {ex : List (PySem.W.Frag → Bool)} {fn : List DE} {g : Addr → Option Obj} {s : Shared} (h : ∀ a, g a = s.heap.get? a) : obsEG n ex fn g = (hookE n ex fn).obs s := by
  have e : g = s.heap.get? := funext h
  rw [e] <;> rfl
section
variable {ex : List (PySem.W.Frag → Bool)} {fn : List DE} {K : PySem.W.Frag}
theorem SaysE.fact (c : SaysE ex fn K) {f : PySem.W.Frag → Bool} (i : Nat) (h : ex[i]? = some f) : f K = true :=
  List.all_eq_true.mp (He.ba (show ((ex.all fun f => f K) && fn.all fun d => d.ok K) = true from congrArg (fun z : AlE => z.1) c)).1 f (List.mem_of_getElem? h)
theorem SaysE.def_ (c : SaysE ex fn K) {d : DE} (i : Nat) (h : fn[i]? = some d) : ∃ fd, FunD K d.name d.qual (defArgs d.st) (defBody d.st) (defScope d.st) d.dfl [] (d.loc K) fd := by
  have c2 := (He.ba (show ((ex.all fun f => f K) && fn.all fun d => d.ok K) = true from congrArg (fun z : AlE => z.1) c)).2
  have e : fn.map (fun d => d.fn K) = fn.map DE.val := congrArg (fun z : AlE => z.2) c
  have e2 : (fn.map fun d => d.fn K)[i]? = (fn.map DE.val)[i]? := by rw [e]
  rw [List.getElem?_map, List.getElem?_map, h] at e2
  exact DE.funD (Option.some.inj e2) (List.all_eq_true.mp c2 d (List.mem_of_getElem? h))
end
/-! ### facts as Bools -/
def eqB (a b : Option (Option Value)) : Bool := decide (a = b)
def okFa (f : He.Fa) (K : PySem.W.Frag) : Bool := f.ok K
section
variable {K : PySem.W.Frag} {P : Program} {w : World} {mg : Str → Option Value} {base h : Heap}
theorem cls_of {x : Str} (c : okFa (.cls x) K = true) : Cls K (He.ga K x) := by
  obtain ⟨h1, c⟩ := He.ba c
  obtain ⟨h2, c⟩ := He.ba c
  obtain ⟨h3, h4⟩ := He.ba c
  exact ⟨h1, h2, h3, He.eqO_ok h4⟩
theorem noat_of {x f : Str} (c : okFa (.noat x f) K = true) : NoAttr K (He.ga K x) f := He.eqO_ok c
theorem meth_of {x m : Str} (c : okFa (.meth x m) K = true) : Meth K (He.ga K x) m (He.ma K (He.ga K x) m) := by
  obtain ⟨h1, c⟩ := He.ba c
  obtain ⟨h2, h3⟩ := He.ba c
  exact ⟨He.eqO_ok h1, h2, h3⟩
theorem mkr_of {x : Str} (c : okFa (.mkr x) K = true) : Mk K (He.ga K x) (He.ma K (He.ga K x) "__init__") := by
  obtain ⟨h1, c⟩ := He.ba c
  obtain ⟨h2, c⟩ := He.ba c
  obtain ⟨h3, h4⟩ := He.ba c
  exact ⟨h1, He.eqO_ok h2, h3, h4⟩
/-- an own class -/
def klsB (x : Str) (K : PySem.W.Frag) : Bool := okFa (.cls x) K && (PySem.W.selfFirst K (He.ga K x) && (eqB (PySem.W.findIn K (.ref (He.ga K x)) "__class__") (some (some (.builtin "object.__class__"))) && (eqB (PySem.W.specialIn K (.builtin "object.__class__") "__get__") (some (some (.builtin "getset_descriptor.__get__"))) &&
  (decide (PySem.W.takesIn K (.builtin "object.__class__") = some true) && decide (PySem.W.mroIn K (He.ga K x) (.type "object") = some true)))))
theorem kls_of {lv : Nat} {x : Str} (c : klsB x K = true) : Kls ⟨P, w, K, mg, base, lv⟩ (He.ga K x) := by
  obtain ⟨h1, c⟩ := He.ba c
  obtain ⟨h2, c⟩ := He.ba c
  obtain ⟨h3, c⟩ := He.ba c
  obtain ⟨h4, c⟩ := He.ba c
  obtain ⟨h5, h6⟩ := He.ba c
  exact ⟨cls_of h1, h2, of_decide_eq_true h3, of_decide_eq_true h4, of_decide_eq_true h5, of_decide_eq_true h6⟩
/-- a property -/
def propB (x m : Str) (K : PySem.W.Frag) : Bool := eqB (PySem.W.findIn K (.ref (He.ga K x)) m) (some (some (.ref (ppA K x m)))) && (eqB (PySem.W.specialIn K (.ref (ppA K x m)) "__get__") (some (some (.builtin "property.__get__"))) && (decide (PySem.W.takesIn K (.ref (ppA K x m)) = some true) &&
  (match PySem.W.recIn K (ppA K x m) "property" with
    | some (.ref _ :: _) => true
    | _ => false)))
theorem prop_of {x m : Str} (c : propB x m K = true) : PropOf K (He.ga K x) m (ppA K x m) (pgA K x m) := by
  obtain ⟨h1, c⟩ := He.ba c
  obtain ⟨h2, c⟩ := He.ba c
  obtain ⟨h3, h4⟩ := He.ba c
  refine ⟨of_decide_eq_true h1, of_decide_eq_true h2, of_decide_eq_true h3, ?_⟩
  unfold pgA
  split at h4
  · rename_i g rest e
    exact ⟨rest, by rw [e]⟩
  · cases h4
def kitB (t u : PySem.W.Frag → Value) (b : Bool) (K : PySem.W.Frag) : Bool := decide (PySem.W.kitOne K (t K) (u K) = some b)
/-- a class that holds a tree -/
def kfB (x : Str) (K : PySem.W.Frag) : Bool := klsB x K && (okFa (.noat x "form") K && (okFa (.glo x) K && (kitB (fun K => .ref (He.ga K x)) (fun K => .ref (He.ga K x)) true K && (kitB (fun _ => .type "tuple") (fun K => .ref (He.ga K x)) false K && eqB (PySem.W.findIn K (.ref (He.ga K x)) "__ne__") (some (some (.builtin "object.__ne__")))))))
theorem kf_of {lv : Nat} {x : Str} (X : K.In h) (N : h.Ns mainGlobals mg) (c : kfB x K = true) : KF ⟨P, w, K, mg, base, lv⟩ x (He.ga K x) := by
  obtain ⟨h1, c⟩ := He.ba c
  obtain ⟨h2, c⟩ := He.ba c
  obtain ⟨h3, c⟩ := He.ba c
  obtain ⟨h4, c⟩ := He.ba c
  obtain ⟨h5, h6⟩ := He.ba c
  exact ⟨kls_of h1, noat_of h2, He.glo_ok X N h3, of_decide_eq_true h4, of_decide_eq_true h5, of_decide_eq_true h6⟩
def gaV (x : Str) (K : PySem.W.Frag) : Value := .ref (He.ga K x)
def keB (K : PySem.W.Frag) : Bool := kfB "Look" K && (kfB "Test" K && (PySem.W.notFirst K (He.ga K "Look") (gaV "Look" K) && (PySem.W.notFirst K (He.ga K "Look") (gaV "Test" K) && (PySem.W.notFirst K (He.ga K "Test") (gaV "Look" K) && (PySem.W.notFirst K (He.ga K "Test") (gaV "Test" K) && (PySem.W.notFirst K (He.ga K "Test") (.type "tuple") &&
  (kitB (gaV "Look") (gaV "Test") false K && kitB (gaV "Test") (gaV "Look") false K)))))))
theorem ke_of {lv : Nat} (X : K.In h) (N : h.Ns mainGlobals mg) (c : keB K = true) : KE ⟨P, w, K, mg, base, lv⟩ (He.ga K "Look") (He.ga K "Test") := by
  obtain ⟨h1, c⟩ := He.ba c
  obtain ⟨h2, c⟩ := He.ba c
  obtain ⟨h3, c⟩ := He.ba c
  obtain ⟨h4, c⟩ := He.ba c
  obtain ⟨h5, c⟩ := He.ba c
  obtain ⟨h6, c⟩ := He.ba c
  obtain ⟨h7, c⟩ := He.ba c
  obtain ⟨h8, h9⟩ := He.ba c
  exact ⟨kf_of X N h1, kf_of X N h2, h3, h4, h5, h6, h7, of_decide_eq_true h8, of_decide_eq_true h9⟩
def kpwB (x : Str) (K : PySem.W.Frag) : Bool := eqB (PySem.W.findIn K (.ref (He.ga K x)) (dunderR Operator.Pow.info.2)) (some none) && ((PySem.W.findIn K (.type "int") (PySem.dunder Operator.Pow.info.2)).isSome && ((PySem.W.findIn K (.type "int") (dunderR Operator.Pow.info.2)).isSome && decide (PySem.W.subIn K (.type "int") (.ref (He.ga K x)) = some false)))
theorem kpw_of {lv : Nat} {x : Str} (c : kpwB x K = true) : KPw ⟨P, w, K, mg, base, lv⟩ (He.ga K x) := by
  obtain ⟨h1, c⟩ := He.ba c
  obtain ⟨h2, c⟩ := He.ba c
  obtain ⟨h3, h4⟩ := He.ba c
  exact ⟨⟨none, of_decide_eq_true h1, .inl rfl⟩, Option.isSome_iff_exists.mp h2, Option.isSome_iff_exists.mp h3, of_decide_eq_true h4⟩
def kinB (x : Str) (K : PySem.W.Frag) : Bool := match PySem.W.clsIn K (He.ga K x) with
  | some cd => cd.mro.all fun c => eqB (PySem.W.findIn K c (dunderI Operator.RShift.info.2)) (some none)
  | none => false
theorem kin_of {lv : Nat} {x : Str} (c : kinB x K = true) : KIn ⟨P, w, K, mg, base, lv⟩ (He.ga K x) := by
  unfold kinB at c
  split at c
  · rename_i cd e
    exact ⟨cd, e, fun v hv => of_decide_eq_true (List.all_eq_true.mp c v hv)⟩
  · cases c
/-! ### defs -/
theorem dfn_of {lv : Nat} {x : Str} {st : Stmt} {ps : List Str} {fd : FuncData} (X : K.In h) (N : h.Ns mainGlobals mg) (g : okFa (.glo x) K = true) (F : FunD K x x (defArgs st) (defBody st) (defScope st) [] [] (He.ga K x) fd) (b : Binds K fd ps []) : Dfn ⟨P, w, K, mg, base, lv⟩ x st ps :=
  ⟨_, fd, fun_of F, He.glo_ok X N g, b⟩
theorem dfm_of {lv : Nat} {x m q : Str} {st : Stmt} {ps : List Str} {fd : FuncData} (c : okFa (.cls x) K = true) (m' : okFa (.meth x m) K = true) (F : FunD K m q (defArgs st) (defBody st) (defScope st) [] [] (He.ma K (He.ga K x) m) fd) (b : Binds K fd ps []) : DfM ⟨P, w, K, mg, base, lv⟩ (He.ga K x) m q st ps :=
  ⟨_, fd, fun_of F, cls_of c, meth_of m', b⟩
theorem dfp_of {lv : Nat} {x m q : Str} {st : Stmt} {ps : List Str} {fd : FuncData} (c : okFa (.cls x) K = true) (p : propB x m K = true) (F : FunD K m q (defArgs st) (defBody st) (defScope st) [] [] (pgA K x m) fd) (b : Binds K fd ps []) : DfP ⟨P, w, K, mg, base, lv⟩ (He.ga K x) m q st ps :=
  ⟨_, _, fd, fun_of F, cls_of c, prop_of p, b⟩
end
/-- the law's own def -/
theorem fun_top {Γ : Gm} {x : Str} {st : Stmt} {ps N : List Str} {k : Nat} {sp : Sp} {f : Addr} {fd : FuncData} (F : L2.Fun Γ.K x x st f fd) (S : FnScope N ps (defScope st)) (len : ∀ vs H Q E, sp vs H Q E → vs.length = ps.length)
    (hbody : ∀ (f : Addr) (cdv : Value) (A : Around) (outer : List Env) (s : Shared) (H : Hp) (vs : List V) (Q : VK) (E : XK), Good (Γ.at k) (cxOf CX0 Γ.P Γ.w Γ.K Γ.mg Γ.base N x (defScope st) f cdv A outer s H E).nox → sp vs H Q E →
      ∃ t, PSs (cxOf CX0 Γ.P Γ.w Γ.K Γ.mg Γ.base N x (defScope st) f cdv A outer s H E).nox (defBody st) t ∧ t { nx := fun _ H' => Q .non H', rt := Q } (L2.start N vs) H) : FnOk Γ.P Γ.w Γ.K Γ.mg Γ.base CX0 (k + 1) f fd ps sp :=
  F.ok S len fun cdv A outer s H vs Q E hr h => hbody f cdv A outer s H vs Q E (Good.of hr).nox h
end G

local macro_rules | `(tactic| walk_at "mem") => `(tactic| first | with_reducible exact List.mem_cons_self | with_reducible exact List.Mem.head _ | (apply List.Mem.tail; walk_at "mem") | assumption)
local macro_rules | `(tactic| walk_at "pick") => `(tactic| first | exact G.Pick.here | (apply G.Pick.next; walk_at "pick") | assumption)
local macro_rules | `(tactic| walk_at "subl") => `(tactic| first | exact List.Sublist.slnil | exact List.Sublist.refl _ | (apply List.Sublist.cons_cons; walk_at "subl") | (apply List.Sublist.cons; walk_at "subl"))
local macro_rules | `(tactic| walk_at "mems") => `(tactic| first | exact G.sub_nil | (refine G.sub_cons ?_ ?_; (focus walk_at "mem"); walk_at "mems"))
local macro_rules | `(tactic| walk_at "cell") => `(tactic| first | assumption | exact L2.upd_same)
local macro_rules | `(tactic| walk_at "sq") => `(tactic| first | assumption | exact L2.SqL.of (by walk_at "cell") | exact L2.SqL.of (G.SS.cell (by assumption) (by walk_at "mem")) | exact G.SS.seq (by assumption) (by walk_at "mem"))
local macro_rules | `(tactic| walk_at "dn") => `(tactic| try dsimp only [L2.tSeq, G.tMw, L2.tMake, L2.sFld, L2.tAug, L2.tNever, L2.tCallN, L2.tAsg, L2.tOp, L2.tUn, L2.tC, L2.tCB, L2.tCons, L2.tNil, L2.tRet, L2.tRetN, L2.gName, L2.gSub, L2.tNext, L2.tDrop, L2.tCall, L2.tTup, L2.tLst, L2.tNot, L2.tBM, L2.tBM0, L2.tM1,
  L2.tSl, L2.tNoPart, L2.iRng1, L2.iRng2, L2.iList, L2.iTup, L2.iStr, L2.iEnum, C8.tCut, G.tFor_eq, G.tLc_eq,  L2.tBreak, L2.tCont, L2.tYes, G.tS, G.tT, G.tCh, G.tIfB, G.tIfSB, G.tAndB, G.tOrB, G.tTr, G.tOrB2, G.tAndB2, G.tNotB, G.tP2, G.tP3, G.tPt,
  G.oAdd_1, G.oAdd_2, G.oSub_1, G.oMul_1, G.oDiv_1, G.oMod_1, G.oPow_1, G.oLt_1, G.oLe_1, G.oGt_1, G.oGe_1, G.oEq_1, G.oEq_2, G.oEq_3, G.oEq_4, G.oEq_5, G.oEq_6, G.oEq_7, G.oEq_8, G.oEq_9, G.oEq_10, G.oNe_1, G.oNe_2, G.oNe_3, G.oNe_4, G.oNe_5, G.oNe_6, G.oNe_7, G.oNe_8, G.oNe_9, G.oNe_10, G.oIs_1, G.oIsNot_1, G.uNeg_1, G.cInt_1, G.cInt_2, G.cAbs_1, G.cMin_1, G.cMax_1, G.cLen_1, G.sl_0, G.sl_s, G.gN_1, G.gC_1, G.asB_1, G.asI_1, G.br_1, G.br_2, G.two_1, G.three_1, G.tru_1, G.tru_2, G.tru_3, G.tru_4, G.isN_1, G.isN_2, G.isN_3, G.isN_4, G.isN_5, L2.wipe, List.map_cons, List.map_nil, G.nb_1, G.nb_2, List.set_cons_zero, List.set_cons_succ, List.append_nil, List.nil_append, List.cons_append])
local macro_rules | `(tactic| walk_at "di") => `(tactic| try dsimp only [G.oAdd_1, G.oAdd_2, G.oSub_1, G.oMul_1, G.oDiv_1, G.oMod_1, G.oPow_1, G.oLt_1, G.oLe_1, G.oGt_1, G.oGe_1, G.oEq_1, G.oEq_2, G.oEq_3, G.oEq_4, G.oEq_5, G.oEq_6, G.oEq_7, G.oEq_8, G.oEq_9, G.oEq_10, G.oNe_1, G.oNe_2, G.oNe_3, G.oNe_4, G.oNe_5, G.oNe_6, G.oNe_7, G.oNe_8, G.oNe_9, G.oNe_10, G.oIs_1, G.oIsNot_1, G.uNeg_1, G.cInt_1, G.cInt_2, G.cAbs_1, G.cMin_1, G.cMax_1, G.cLen_1, G.sl_0, G.sl_s, G.gN_1, G.gC_1, G.asB_1, G.asI_1, G.br_1, G.br_2, G.two_1, G.three_1, G.tru_1, G.tru_2, G.tru_3, G.tru_4, G.isN_1, G.isN_2, G.isN_3, G.isN_4, G.isN_5, L2.wipe, List.map_cons, List.map_nil, G.nb_1, G.nb_2, List.set_cons_zero, List.set_cons_succ, List.append_nil, List.nil_append, List.cons_append])
local macro_rules | `(tactic| walk_at "h1") => `(tactic| first
  | with_reducible refine G.wx_l (by walk_at "sq") (by with_unfolding_all exact rfl) ?_
  | with_reducible refine G.wp_l (by walk_at "cell") (by with_unfolding_all exact rfl) ?_
  | ((with_reducible refine And.intro ?_ ?_); focus (first | assumption | omega | exact ⟨by omega, by omega⟩ | exact Or.inl ⟨by omega, by omega⟩ | exact Or.inr ⟨by omega, by omega⟩ | decide | exact G.szl (by simp only [List.length_cons, List.length_nil]; omega))))
local macro_rules | `(tactic| walk_at "go") => `(tactic| (walk_at "di"; repeat (walk_at "h1"; walk_at "di")))
namespace K
open PySem PySem.Spec PyProof.Rows L2 G
def spTake : Sp := fun vs H Q _ => ∃ (b : Addr) (m : Int) (n : Nat), vs = [.ref b, .int m] ∧ 0 < m ∧ m < 2 ^ 30 ∧ Box b (n + 1) H ∧ ∀ (r : Int) H', 0 ≤ r → r < m → Fr [b] H H' → Box b n H' → Q (.int r) H'
def spBox (K : PySem.W.Frag) : Sp := fun vs H Q _ => ∃ (l : Addr) (ns : List Int) (k : Nat), vs = [.ref l, .int k] ∧ SqL K H l (ns.map V.int) ∧ k < ns.length ∧ k ≤ 100 ∧ ∀ p H', H p = none → Same H H' → Box p (2 ^ 39) H' → Q (.ref p) H'
def spCells (K : PySem.W.Frag) : Sp := fun vs H Q _ => ∃ (l : Addr) (ns : List Int) (m : Nat), vs = [.ref l, .int m] ∧ SqL K H l (ns.map V.int) ∧ ns.length ≤ 63 ∧ 1 ≤ m ∧ m ≤ 3 ∧
  ∀ p H' (ks : List Int), H p = none → Same H H' → H' p = some (.lst (ks.map V.int)) → 1 ≤ ks.length → ks.length ≤ m → Q (.ref p) H'
/-- an item of a list or a tuple, a sign of a text -/
def spOf (K : PySem.W.Frag) : Sp := fun vs H Q _ => ∃ (b : Addr) (g : V) (n : Nat), vs = [.ref b, g] ∧ Box b (n + 1) H ∧
  ((∃ (l : Addr) (xs : List V), g = .ref l ∧ l ≠ b ∧ SqL K H l xs ∧ 0 < xs.length ∧ xs.length < 1000000 ∧ ∀ v ∈ xs, ∀ H', Fr [b] H H' → Box b n H' → Q v H') ∨
   (∃ (z : Str), g = .str z ∧ 0 < z.length ∧ z.length < 1000000 ∧ ∀ c ∈ z.cps.toList, ∀ H', Fr [b] H H' → Box b n H' → Q (.str ⟨#[c]⟩) H'))
/-- some of the goods, each once -/
def spPick (K : PySem.W.Frag) : Sp := fun vs H Q _ => ∃ (b : Addr) (g : V) (gs : List V) (n m : Nat), vs = [.ref b, g, .int m] ∧ Box b (n + m) H ∧ gs.length < 100000 ∧
  ((∃ l, g = .ref l ∧ SqL K H l gs) ∨ ∃ z, g = .str z ∧ gs = sgs z) ∧
  ∀ p xs H', H p = none → Fr [b] H H' → Box b n H' → H' p = some (.lst xs) → (∃ r, (xs ++ r).Perm gs) → xs.length = min m gs.length → Q (.ref p) H'
abbrev E0v (K : PySem.W.Frag) : Hv := ⟨K, fun _ => False⟩
/-- a NAME -/
def Nm (z : Str) : Prop := 1 ≤ z.length ∧ z.length ≤ 8 ∧ ∀ c ∈ z.cps.toList, 97 ≤ c ∧ c ≤ 122
def LETS : Str := "abcdefghijklmnopqrstuvwxyz"
/-- names, unlike one another -/
def spNms (K : PySem.W.Frag) : Sp := fun vs H Q _ => ∃ (b : Addr) (n m : Nat), vs = [.ref b, .int m] ∧ Box b (n + 500) H ∧ m ≤ 26 ∧
  ∀ p (zs : List Str) H', H p = none → Fr [b] H H' → Box b n H' → H' p = some (.lst (zs.map V.str)) → zs.length = m → zs.Nodup → (∀ z ∈ zs, Nm z) → Q (.ref p) H'
def topS (i : Nat) : Stmt := PySem.Challenge.pw_linelooks_k05_trees.main.body.getD i (.Pass ⟨0, 0, 0, 0⟩)
structure Names (Γ : Gm) : Prop where
  n_abs : Γ.mg "abs" = none
  n_all : Γ.mg "all" = none
  n_any : Γ.mg "any" = none
  n_bool : Γ.mg "bool" = none
  n_chr : Γ.mg "chr" = none
  n_dict : Γ.mg "dict" = none
  n_enumerate : Γ.mg "enumerate" = none
  n_int : Γ.mg "int" = none
  n_isinstance : Γ.mg "isinstance" = none
  n_len : Γ.mg "len" = none
  n_list : Γ.mg "list" = none
  n_max : Γ.mg "max" = none
  n_min : Γ.mg "min" = none
  n_ord : Γ.mg "ord" = none
  n_range : Γ.mg "range" = none
  n_reversed : Γ.mg "reversed" = none
  n_set : Γ.mg "set" = none
  n_sorted : Γ.mg "sorted" = none
  n_str : Γ.mg "str" = none
  n_sum : Γ.mg "sum" = none
  n_tuple : Γ.mg "tuple" = none
  n_zip : Γ.mg "zip" = none
abbrev s_take : Stmt := topS 26
abbrev n_take : List Str := ["_law_box_here", "_law_below", "_law_some", "_law_once", "_law_far", "_law_again"]
theorem sc_take : FnScope n_take ["_law_box_here", "_law_below"] (defScope s_take) := ⟨rfl, rfl, rfl, by decide +kernel, rfl, by decide +kernel, by decide +kernel⟩
theorem nm_take : nvB n_take (defScope s_take) 0 "_law_box_here" = true ∧ nvB n_take (defScope s_take) 1 "_law_below" = true ∧ nvB n_take (defScope s_take) 2 "_law_some" = true ∧ nvB n_take (defScope s_take) 3 "_law_once" = true ∧ nvB n_take (defScope s_take) 4 "_law_far" = true ∧ nvB n_take (defScope s_take) 5 "_law_again" = true ∧ lvB n_take (defScope s_take) 2 "_law_some" = true ∧ lvB n_take (defScope s_take) 3 "_law_once" = true ∧ lvB n_take (defScope s_take) 4 "_law_far" = true ∧ lvB n_take (defScope s_take) 5 "_law_again" = true ∧ gvB (defScope s_take) "int" = true := by decide +kernel
theorem cl_take {Γ : Gm} (dfn : Dfn Γ "_law_take" s_take ["_law_box_here", "_law_below"]) (T : Names Γ) : Cl Γ CX0 (1) "_law_take" spTake [] := by
  refine dfn.cl sc_take (fun vs H Q E h => ?_) (fun f cdv A outer s H vs Q E hg h => ?_)
  · obtain ⟨b, m, n, rfl, _⟩ := h
    rfl
  obtain ⟨b, m, n, rfl, hm, hm2, ⟨i, j, k, hb, j0, j1, k0, k1⟩, q⟩ := h
  have nd := sc_take.nd
  obtain ⟨v0, v1, v2, v3, v4, v5, l2, l3, l4, l5, g_int⟩ := nm_take
  refine ⟨_, (pss_cons (ps_ifB (pt_cm (k_gt hg) (pe_ix (WX.ok hg) (ps 0 v0) pe_int (fun _ _ => rfl)) pe_int (nomark _))
    (pss_cons (pst (i := 2) nd l2 (pe_op (k_mod hg) (pct (k_int hg) g_int T.n_int bt_int (pa_cons (pe_ix (WX.ok hg) (ps 0 v0) pe_int (fun _ _ => rfl)) pa_nil)) (ps 1 v1)))
    (pss_cons (ps_asg (pe_op (k_div hg) (pe_ix (WX.ok hg) (ps 0 v0) pe_int (fun _ _ => rfl)) (ps 1 v1)) (pg_sub (ps 0 v0) pe_int (WP.ok hg)))
    (pss_one (ps_ret (ps 2 v2)))))
    pss_nil)
    (pss_cons (ps_asg (pe_op (k_add hg) (pe_ix (WX.ok hg) (ps 0 v0) pe_int (fun _ _ => rfl)) pe_int) (pg_sub (ps 0 v0) pe_int (WP.ok hg)))
    (pss_cons (pst (i := 3) nd l3 (pe_op (k_mod hg) (pct (k_int hg) g_int T.n_int bt_int (pa_cons (pe_op (k_mul hg) (pe_op (k_add hg) (pe_ix (WX.ok hg) (ps 0 v0) pe_int (fun _ _ => rfl)) (pe_op (k_mul hg) pe_int (pe_ix (WX.ok hg) (ps 0 v0) pe_int (fun _ _ => rfl)))) (pe_op (k_add hg) pe_int (pe_ix (WX.ok hg) (ps 0 v0) pe_int (fun _ _ => rfl)))) pa_nil)) pe_int))
    (pss_cons (pst (i := 4) nd l4 (pe_op (k_add hg) (pe_op (k_mod hg) (pct (k_int hg) g_int T.n_int bt_int (pa_cons (ps 3 v3) pa_nil)) pe_int) pe_int))
    (pss_cons (pst (i := 5) nd l5 (pe_op (k_mod hg) (pct (k_int hg) g_int T.n_int bt_int (pa_cons (pe_op (k_mul hg) (pe_op (k_add hg) (pe_op (k_add hg) (ps 3 v3) (pe_ix (WX.ok hg) (ps 0 v0) pe_int (fun _ _ => rfl))) (pe_op (k_div hg) (pe_ix (WX.ok hg) (ps 0 v0) pe_int (fun _ _ => rfl)) pe_int)) (ps 4 v4)) pa_nil)) pe_int))
    (pss_one (ps_ret (pe_op (k_mod hg) (pct (k_int hg) g_int T.n_int bt_int (pa_cons (pe_op (k_div hg) (pe_op (k_mod hg) (pct (k_int hg) g_int T.n_int bt_int (pa_cons (pe_op (k_add hg) (pe_op (k_mul hg) (ps 5 v5) pe_int) (ps 3 v3)) pa_nil)) pe_int) pe_int) pa_nil)) (ps 1 v1))))))))), ?_⟩
  refine st_start (σ := [some _, some _, none, none, none, none]) rfl ?_
  walk_at "dn"
  walk_at "go"
  refine br_d (fun h => ?_) (fun h => ?_)
  · walk_at "go"
    exact q _ _ (Int.emod_nonneg _ (by omega)) (Int.emod_lt_of_pos _ hm) (Fr.upd (.head _)) ⟨_, j, k, upd_same, j0, j1, k0, by omega⟩
  · walk_at "go"
    exact q _ _ (Int.emod_nonneg _ (by omega)) (Int.emod_lt_of_pos _ hm) (Fr.upd (.head _)) ⟨_, j, _, upd_same, j0, j1, by omega, by omega⟩
abbrev s_box : Stmt := topS 25
abbrev n_box : List Str := ["_law_script", "_law_k", "_law_cell"]
theorem sc_box : FnScope n_box ["_law_script", "_law_k"] (defScope s_box) := ⟨rfl, rfl, rfl, by decide +kernel, rfl, by decide +kernel, by decide +kernel⟩
theorem nm_box : nvB n_box (defScope s_box) 0 "_law_script" = true ∧ nvB n_box (defScope s_box) 1 "_law_k" = true ∧ nvB n_box (defScope s_box) 2 "_law_cell" = true ∧ lvB n_box (defScope s_box) 2 "_law_cell" = true ∧ gvB (defScope s_box) "abs" = true ∧ gvB (defScope s_box) "int" = true ∧ gvB (defScope s_box) "len" = true := by decide +kernel
theorem cl_box {Γ : Gm} (dfn : Dfn Γ "_law_box" s_box ["_law_script", "_law_k"]) (T : Names Γ) : Cl Γ CX0 (1) "_law_box" (spBox Γ.K) [] := by
  refine dfn.cl sc_box (fun vs H Q E h => ?_) (fun f cdv A outer s H vs Q E hg h => ?_)
  · obtain ⟨b, m, n, rfl, _⟩ := h
    rfl
  obtain ⟨l, ns, k, rfl, hl, hk, hk2, q⟩ := h
  have nd := sc_box.nd
  obtain ⟨v0, v1, v2, l2, g_abs, g_int, g_len⟩ := nm_box
  refine ⟨_, (pss_cons (pst (i := 2) nd l2 (pe_ifB (pt_cm (k_lt hg) (ps 1 v1) (pcb (k_len hg) g_len T.n_len bt_len (pa_cons (ps 0 v0) pa_nil)) (nomark _)) (pe_ix (WX.ok hg) (ps 0 v0) (ps 1 v1) (fun _ _ => rfl)) pe_int))
    (pss_one (ps_ret (pe_lst (pa_cons (pe_op (k_mul hg) (pcb (k_abs hg) g_abs T.n_abs bt_abs (pa_cons (ps 2 v2) pa_nil)) (pct (k_int hg) g_int T.n_int bt_int (pa_cons (pe_cmpR (k_ge hg) (pcb (k_abs hg) g_abs T.n_abs bt_abs (pa_cons (ps 2 v2) pa_nil)) (pe_op (k_pow hg) pe_int pe_int) (nomark _)) pa_nil))) (pa_cons (pe_op (k_add hg) (pe_op (k_add hg) (pe_op (k_mod hg) (pct (k_int hg) g_int T.n_int bt_int (pa_cons (ps 2 v2) pa_nil)) pe_int) (pe_op (k_mul hg) pe_int (ps 1 v1))) pe_int) (pa_cons pe_int pa_nil))))))), ?_⟩
  refine st_start (σ := [some _, some _, none]) rfl ?_
  walk_at "dn"
  refine wc_len_l hl ?_
  walk_at "di"
  refine br_d (fun h => ?_) (fun h => ?_)
  · obtain ⟨v, hv⟩ : ∃ v, ns[k]? = some v := ⟨_, List.getElem?_eq_getElem hk⟩
    refine wx_l hl (v := .int v) (atI_nat (by rw [List.getElem?_map, hv]; rfl)) ?_
    walk_at "go"
    exact fun p hp => q p _ hp (Same.mk hp) ⟨_, _, _, upd_same, by omega, by omega, by omega, by omega⟩
  · exfalso
    rw [List.length_map] at h
    omega
abbrev s_of : Stmt := topS 28
abbrev n_of : List Str := ["_law_box_here", "_law_goods_so"]
theorem sc_of : FnScope n_of ["_law_box_here", "_law_goods_so"] (defScope s_of) := ⟨rfl, rfl, rfl, by decide +kernel, rfl, by decide +kernel, by decide +kernel⟩
theorem nm_of : nvB n_of (defScope s_of) 0 "_law_box_here" = true ∧ nvB n_of (defScope s_of) 1 "_law_goods_so" = true ∧ gvB (defScope s_of) "_law_take" = true ∧ gvB (defScope s_of) "len" = true := by decide +kernel
theorem cl_of {Γ : Gm} (dfn : Dfn Γ "_law_of" s_of ["_law_box_here", "_law_goods_so"]) (T : Names Γ) (c_law_take : Cl Γ CX0 1 "_law_take" spTake []) : Cl Γ CX0 (2) "_law_of" (spOf Γ.K) [] := by
  refine dfn.cl sc_of (fun vs H Q E h => ?_) (fun f cdv A outer s H vs Q E hg h => ?_)
  · obtain ⟨b, m, n, rfl, _⟩ := h
    rfl
  obtain ⟨b, g, n, rfl, hb, h⟩ := h
  have nd := sc_of.nd
  obtain ⟨v0, v1, g__law_take, g_len⟩ := nm_of
  refine ⟨_, (pss_one (ps_ret (pe_ix (WX.ok hg) (ps 1 v1) (pcl c_law_take hg (by omega) g__law_take pass0 (pa_cons (ps 0 v0) (pa_cons (pcb (k_len hg) g_len T.n_len bt_len (pa_cons (ps 1 v1) pa_nil)) pa_nil))) (fun _ _ => rfl)))), ?_⟩
  refine st_start (σ := [some _, some _]) rfl ?_
  walk_at "dn"
  rcases h with ⟨l, xs, rfl, hne, hl, h0, h1, q⟩ | ⟨z, rfl, h0, h1, q⟩
  · refine wc_len_l hl ?_
    walk_at "di"
    refine ⟨b, _, n, rfl, by omega, by omega, hb, fun r H' r0 r1 fr hb' => ?_⟩
    have hr' : r.toNat < xs.length := by omega
    refine wx_l (fr.sql hl (by simpa using hne)) (v := xs[r.toNat]) (atG (z := r) (j := r.toNat) (by omega) (List.getElem?_eq_getElem hr')) ?_
    exact q _ (List.getElem_mem hr') _ fr hb'
  · walk_at "di"
    refine ⟨by rw [sizeLine_eq]; omega, b, _, n, rfl, by omega, by omega, hb, fun r H' r0 r1 fr hb' => ?_⟩
    have hr' : r.toNat < z.cps.toList.length := by rw [Array.length_toList]; show r.toNat < z.length; omega
    refine wx_s (by rw [sizeLine_eq]; omega) (c := z.cps.toList[r.toNat]) (atG (z := r) (j := r.toNat) (by omega) (List.getElem?_eq_getElem hr')) ?_
    exact q _ (List.getElem_mem hr') _ fr hb'
abbrev s_cells : Stmt := topS 27
abbrev n_cells : List Str := ["_law_script", "_law_most", "_law_slots_so", "_law_k", "_law_cell", "_law_at_so"]
theorem sc_cells : FnScope n_cells ["_law_script", "_law_most"] (defScope s_cells) := ⟨rfl, rfl, rfl, by decide +kernel, rfl, by decide +kernel, by decide +kernel⟩
theorem nm_cells : nvB n_cells (defScope s_cells) 0 "_law_script" = true ∧ nvB n_cells (defScope s_cells) 1 "_law_most" = true ∧ nvB n_cells (defScope s_cells) 2 "_law_slots_so" = true ∧ nvB n_cells (defScope s_cells) 3 "_law_k" = true ∧ nvB n_cells (defScope s_cells) 4 "_law_cell" = true ∧ nvB n_cells (defScope s_cells) 5 "_law_at_so" = true ∧ lvB n_cells (defScope s_cells) 2 "_law_slots_so" = true ∧ lvB n_cells (defScope s_cells) 3 "_law_k" = true ∧ lvB n_cells (defScope s_cells) 4 "_law_cell" = true ∧ lvB n_cells (defScope s_cells) 5 "_law_at_so" = true ∧ gvB (defScope s_cells) "enumerate" = true ∧ gvB (defScope s_cells) "int" = true ∧ gvB (defScope s_cells) "list" = true := by decide +kernel
theorem cl_cells {Γ : Gm} (dfn : Dfn Γ "_law_cells" s_cells ["_law_script", "_law_most"]) (T : Names Γ) : Cl Γ CX0 (1) "_law_cells" (spCells Γ.K) [] := by
  refine dfn.cl sc_cells (fun vs H Q E h => ?_) (fun f cdv A outer s H vs Q E hg h => ?_)
  · obtain ⟨b, m, n, rfl, _⟩ := h
    rfl
  obtain ⟨l, ns, m, rfl, hl, hn, m1, m3, q⟩ := h
  have nd := sc_cells.nd
  obtain ⟨v0, v1, v2, v3, v4, v5, l2, l3, l4, l5, g_enumerate, g_int, g_list⟩ := nm_cells
  refine ⟨_, (C8.pss_cut (pst (i := 2) nd l2 (pe_or2 hg (pct (WC.ok hg) g_list T.n_list bt_list (pa_cons (pe_slice (WL.ok hg) (ps 0 v0) po_none (po_pt (ps 1 v1))) pa_nil)) (pe_one (pe_lst (pa_cons pe_int pa_nil)))))
    (pss_cons (ps_for PassesOwn.never rfl (pi_en hg g_enumerate T.n_enumerate (pa_cons (pe_slice (WL.ok hg) (ps 0 v0) (po_pt (ps 1 v1)) (po_pt pe_int)) pa_nil)) (pg_tK hg 2 rfl (pgs_c (pgn (i := 3) nd l3) (pgs_c (pgn (i := 4) nd l4) pgs_0)))
    (pss_cons (pst (i := 5) nd l5 (pe_op (k_mod hg) (pct (k_int hg) g_int T.n_int bt_int (pa_cons (ps 3 v3) pa_nil)) (ps 1 v1)))
    (pss_one (ps_asg (pe_op (k_add hg) (pe_ix (WX.ok hg) (ps 2 v2) (ps 5 v5) (fun _ _ => rfl)) (pe_op (k_mul hg) (ps 4 v4) (pe_op (k_add hg) (ps 3 v3) pe_int))) (pg_sub (ps 2 v2) (ps 5 v5) (WP.ok hg))))))
    (pss_one (ps_ret (ps 2 v2))))), ?_⟩
  refine st_start (σ := [some _, some _, none, none, none, none]) rfl ?_
  walk_at "dn"
  refine ⟨fun σ' H' => ∃ (p : Addr) (ks : List Int), σ' = [some (.ref l), some (.int m), some (.ref p), none, none, none] ∧ H p = none ∧ Same H H' ∧ H' p = some (.lst (ks.map V.int)) ∧ 1 ≤ ks.length ∧ ks.length ≤ m ∧ (m < ns.length → ks.length = m), ?_, ?_⟩
  · refine wl_l hl fun p hp => ?_
    rw [cut_to, ← List.map_take]
    refine wc_list (.inl (SqL.of upd_same)) fun p2 hp2 => ?_
    have s2 : Same H (upd (upd H p (.lst ((ns.take m).map V.int))) p2 (.lst ((ns.take m).map V.int))) := (Same.mk hp).trans (Same.mk hp2)
    have h2 : H p2 = none := (Same.mk hp).free hp2
    refine ⟨_, .inl ⟨_, SqL.of upd_same, rfl⟩, br_b (fun e => ?_) (fun e => ⟨szl (by simp only [List.length_cons, List.length_nil]; omega), fun p3 hp3 => ?_⟩)⟩
    · refine ⟨p2, _, rfl, h2, s2, upd_same, ?_, by rw [List.length_take]; omega, fun z => by rw [List.length_take]; omega⟩
      cases q : ns.take m with
      | nil => rw [q] at e; cases e
      | cons _ _ => rw [List.length_cons]; omega
    · refine ⟨p3, [0], rfl, s2.free hp3, s2.trans (Same.mk hp3), upd_same, Nat.le_refl _, m1, fun z => ?_⟩
      exfalso
      cases q : ns.take m with
      | nil => have := congrArg List.length q; rw [List.length_take] at this; simp only [List.length_nil] at this; omega
      | cons _ _ => rw [q] at e; cases e
  · rintro σ' H1 ⟨p, ks, rfl, hp, s1, h1, k1, km, kn⟩
    walk_at "di"
    refine wl_l (Same.seq s1 hl) fun p3 hp3 => ?_
    have hws : ∀ v ∈ cutV (ns.map V.int) (some (m : Int)) (some (63 : Int)), ∃ z : Int, v = .int z := by
      intro v hv
      obtain ⟨z, _, rfl⟩ := List.mem_map.mp (List.mem_of_mem_drop (List.mem_of_mem_take hv))
      exact ⟨z, rfl⟩
    have hmn : cutV (ns.map V.int) (some (m : Int)) (some (63 : Int)) ≠ [] → m < ns.length := by
      intro h
      by_cases z : m < ns.length
      · exact z
      · refine absurd ?_ h
        unfold cutV
        rw [HT.sIx_nat, Nat.min_eq_right (by rw [List.length_map]; omega), List.drop_length, List.take_nil]
    have hsz : (cutV (ns.map V.int) (some (m : Int)) (some (63 : Int))).length ≤ 63 := Nat.le_trans (cutV_length _ _ _) (by rw [List.length_map]; exact hn)
    generalize cutV (ns.map V.int) (some (m : Int)) (some (63 : Int)) = ws at hws hmn hsz
    have s0 : SS (E := ⟨Γ.K, fun _ => True⟩) H [] (upd H1 p3 (.lst ws)) [] [lstR p3 ws, lstR p (ks.map V.int)] := (SS.of1 hp s1 h1 (fun z => z)).newC hp3 (fun z => z)
    refine ⟨p3, ws, rfl, SqL.of upd_same, ?_⟩
    refine lp_it walk_enum (fun i σ H' => ∃ (ks' : List Int) (F : List (PF ⟨Γ.K, fun _ => True⟩)) (a b c : Option V), σ = [some (V.ref l), some (V.int m), some (V.ref p), a, b, c] ∧ SS (E := ⟨Γ.K, fun _ => True⟩) H [] H' F [lstR p3 ws, lstR p (ks'.map V.int)] ∧ ks'.length = ks.length)
      ⟨ks, [], none, none, none, rfl, s0, rfl⟩ (fun i σ H' _ ⟨_, _, _, _, _, _, s, _⟩ => SqL.of (s.cell (.head _))) ?_ ?_
    · rintro i x σ H2 H' hi ⟨ks', F, a, b, c, rfl, s, hk⟩ ⟨T, x1, y, rfl, hT, rfl, e1, e2⟩
      cases e1
      obtain ⟨z, rfl⟩ := hws y (List.mem_of_getElem? e2)
      have hkm : ks'.length = m := by rw [hk]; exact kn (hmn fun z => by rw [z] at hi; cases hi)
      have s2 := s.newT (xs := [V.int i, V.int z]) hT
      refine gt_of (s2.tup (.head _)) rfl ?_
      walk_at "dn"
      refine ⟨by omega, ?_⟩
      have hm : ((i : Int) % m).toNat < ks'.length := by have := Int.emod_lt_of_pos (i : Int) (b := m) (by omega); omega
      obtain ⟨u, hu⟩ : ∃ u, ks'[((i : Int) % m).toNat]? = some u := ⟨_, List.getElem?_eq_getElem hm⟩
      have hix : (i : Int) % m = (((i : Int) % m).toNat : Nat) := by have := Int.emod_nonneg (i : Int) (b := m) (by omega); omega
      refine wx_l (SqL.of (s2.cell (.tail _ (.head _)))) (v := .int u) (atG (j := ((i : Int) % m).toNat) hix (by rw [List.getElem?_map, hu]; rfl)) ?_
      walk_at "di"
      refine ⟨.inr ⟨by omega, by omega⟩, wp_ss s2 (.next .here) (j := ((i : Int) % m).toNat) ?_ fun H3 s3 => ⟨ks'.set ((i : Int) % m).toNat (u + z * (i + 2)), F, _, _, _, rfl, ?_, ?_⟩⟩
      · have hxx := ixN_n (n := (ks'.map V.int).length) (j := ((i : Int) % m).toNat) (by rw [List.length_map]; exact hm)
        rw [← hix] at hxx
        exact hxx
      · rw [List.map_set]; exact s3.sub fun x hx => .tail _ hx
      · rw [List.length_set]; exact hk
    · rintro σ H2 ⟨ks', F, a, b, c, rfl, s, hk⟩
      exact q p H2 ks' hp s.fr.same (s.cell (.tail _ (.head _))) (by omega) (by omega)
abbrev s_pick : Stmt := topS 29
abbrev n_pick : List Str := ["_law_box_here", "_law_goods_so", "_law_count_so", "_law_rest", "_law_found", "_law_turn"]
theorem sc_pick : FnScope n_pick ["_law_box_here", "_law_goods_so", "_law_count_so"] (defScope s_pick) := ⟨rfl, rfl, rfl, by decide +kernel, rfl, by decide +kernel, by decide +kernel⟩
theorem nm_pick : nvB n_pick (defScope s_pick) 0 "_law_box_here" = true ∧ nvB n_pick (defScope s_pick) 1 "_law_goods_so" = true ∧ nvB n_pick (defScope s_pick) 2 "_law_count_so" = true ∧ nvB n_pick (defScope s_pick) 3 "_law_rest" = true ∧ nvB n_pick (defScope s_pick) 4 "_law_found" = true ∧ lvB n_pick (defScope s_pick) 5 "_law_turn" = true ∧ gvB (defScope s_pick) "_law_take" = true ∧ gvB (defScope s_pick) "int" = true ∧ gvB (defScope s_pick) "len" = true ∧ gvB (defScope s_pick) "list" = true ∧ gvB (defScope s_pick) "min" = true ∧ gvB (defScope s_pick) "range" = true := by decide +kernel
theorem cl_pick {Γ : Gm} (dfn : Dfn Γ "_law_pick" s_pick ["_law_box_here", "_law_goods_so", "_law_count_so"]) (T : Names Γ) (c_law_take : Cl Γ CX0 1 "_law_take" spTake []) : Cl Γ CX0 (2) "_law_pick" (spPick Γ.K) [] := by
  refine dfn.cl sc_pick (fun vs H Q E h => ?_) (fun f cdv A outer s H vs Q E hg h => ?_)
  · obtain ⟨b, g, gs, n, m, rfl, _⟩ := h
    rfl
  obtain ⟨b, g, gs, n, m, rfl, hb, hl, hgd, q⟩ := h
  have hm40 : m < 2 ^ 41 := by obtain ⟨_, _, _, _, _, _, h1, h2⟩ := hb; omega
  have nd := sc_pick.nd
  obtain ⟨v0, v1, v2, v3, v4, l5, g__law_take, g_int, g_len, g_list, g_min, g_range⟩ := nm_pick
  refine ⟨_, (pss_cons (ps_p2 (i := 3) (j := 4) rfl nd rfl rfl (by decide) rfl rfl (pa_cons (pct (WC.ok hg) g_list T.n_list bt_list (pa_cons (ps 1 v1) pa_nil)) (pa_cons (pe_lst pa_nil) pa_nil)) (by rfl))
    (pss_cons (ps_for PassesOwn.never rfl (pi_r1 g_range T.n_range (pa_cons (pcb (k_min hg) g_min T.n_min bt_min (pa_cons (pct (k_int hg) g_int T.n_int bt_int (pa_cons (ps 2 v2) pa_nil)) (pa_cons (pcb (k_len hg) g_len T.n_len bt_len (pa_cons (ps 3 v3) pa_nil)) pa_nil))) pa_nil)) (pgn (i := 5) nd l5)
    (pss_one (ps_expr (pe_bmK hg PySem.F.plainAttrs_list PySem.F.slot_list_append PySem.F.type_list_append mt_append (ps 4 v4) (pa_cons (pe_bmK hg PySem.F.plainAttrs_list PySem.F.slot_list_pop PySem.F.type_list_pop mt_popAt (ps 3 v3) (pa_cons (pcl c_law_take hg (by omega) g__law_take pass0 (pa_cons (ps 0 v0) (pa_cons (pcb (k_len hg) g_len T.n_len bt_len (pa_cons (ps 3 v3) pa_nil)) pa_nil))) pa_nil)) pa_nil)))))
    (pss_one (ps_ret (ps 4 v4))))), ?_⟩
  refine st_start (σ := [some _, some _, some _, none, none, none]) rfl ?_
  walk_at "dn"
  have first : ∀ (R : VK), (∀ p, H p = none → R (.ref p) (upd H p (.lst gs))) → WC (Γ.at 1) (Value.type "list") [g] H R := by
    intro R k
    rcases hgd with ⟨l, rfl, h⟩ | ⟨z, rfl, rfl⟩
    · exact wc_list (.inl h) k
    · exact wc_listS (Nat.le_of_lt (lt_size (by unfold sgs at hl; rw [List.length_map] at hl; exact Nat.lt_of_le_of_lt (Nat.le_of_eq Array.length_toList.symm) hl))) k
  refine first _ fun p1 hp1 => ⟨szl (by simp only [List.length_nil]; omega), fun p2 hp2 => ?_⟩
  refine wc_len_l (SqL.of ((Same.mk hp2) _ _ upd_same)) ?_
  walk_at "di"
  refine ⟨_, rfl, by split <;> omega, by split <;> omega, ?_⟩
  rw [show (if (gs.length : Int) < m then (gs.length : Int) else m).toNat = min m gs.length from by split <;> omega]
  have s0 : SS (E := E0v Γ.K) H [b] (upd (upd H p1 (.lst gs)) p2 (.lst [])) [] [lstR p2 [], lstR p1 gs, boxR b (n + m)] := ((SS.box1 (E := E0v Γ.K) hb).newC (o := .lst gs) hp1 (fun z => z)).newC hp2 (fun z => z)
  refine lp_range (fun i σ H' => ∃ (xs rs : List V) (a : Option V), σ = [some (.ref b), some g, some (.int m), some (.ref p1), some (.ref p2), a] ∧ SS (E := E0v Γ.K) H [b] H' [] [lstR p2 xs, lstR p1 rs, boxR b (n + (m - i))] ∧ (xs ++ rs).Perm gs ∧ xs.length = i) ⟨[], gs, none, rfl, s0, .refl _, rfl⟩ ?_ ?_
  · rintro i σ H1 hi ⟨xs, rs, a, rfl, s, hperm, hlen⟩
    walk_at "dn"
    have hrl : xs.length + rs.length = gs.length := by rw [← List.length_append]; exact hperm.length_eq
    have hbx := s.box (.tail _ (.tail _ (.head _)))
    rw [show n + (m - i) = n + (m - (i + 1)) + 1 from by omega] at hbx
    refine ⟨ty_l (SqL.of (s.cell (.head _))), ty_l (SqL.of (s.cell (.tail _ (.head _)))), wc_len_l (SqL.of (s.cell (.tail _ (.head _)))) ⟨b, _, n + (m - (i + 1)), rfl, by omega, by omega, hbx, fun r H2 r0 r1 fr hb2 => ?_⟩⟩
    have s2 := s.draw (.next (.next .here)) fr hb2
    obtain ⟨y, hy⟩ : ∃ y, rs[r.toNat]? = some y := ⟨_, List.getElem?_eq_getElem (by omega)⟩
    refine pop_ss s2 (.next .here) (j := r.toNat) (by omega) hy (by omega) fun H3 s3 => ap_ss s3 .here (lt_size (by omega)) fun H4 s4 => ?_
    refine ⟨xs ++ [y], rs.eraseIdx r.toNat, _, rfl, s4, ?_, by rw [List.length_append, hlen]; rfl⟩
    refine List.Perm.trans ?_ hperm
    rw [List.append_assoc]
    exact (erase_perm rs r.toNat y hy).append_left xs
  · rintro σ H1 ⟨xs, rs, a, rfl, s, hperm, hlen⟩
    exact q p2 xs H1 ((Same.mk hp1).free hp2) s.fr ((s.box (.tail _ (.tail _ (.head _)))).less (by omega)) (s.cell (.head _)) ⟨rs, hperm⟩ hlen
abbrev s_names : Stmt := topS 30
abbrev n_names : List Str := ["_law_box_here", "_law_many", "_law_letters_so", "_law_long", "_law_base", "_law_kind", "_law_place", "_law_found", "_law_sign", "_law_turn"]
theorem sc_names : FnScope n_names ["_law_box_here", "_law_many"] (defScope s_names) := ⟨rfl, rfl, rfl, by decide +kernel, rfl, by decide +kernel, by decide +kernel⟩
theorem nm_names : nvB n_names (defScope s_names) 0 "_law_box_here" = true ∧ nvB n_names (defScope s_names) 1 "_law_many" = true ∧ nvB n_names (defScope s_names) 2 "_law_letters_so" = true ∧ nvB n_names (defScope s_names) 3 "_law_long" = true ∧ nvB n_names (defScope s_names) 4 "_law_base" = true ∧ nvB n_names (defScope s_names) 5 "_law_kind" = true ∧ nvB n_names (defScope s_names) 6 "_law_place" = true ∧ nvB n_names (defScope s_names) 7 "_law_found" = true ∧ nvB n_names (defScope s_names) 8 "_law_sign" = true ∧ lvB n_names (defScope s_names) 2 "_law_letters_so" = true ∧ lvB n_names (defScope s_names) 3 "_law_long" = true ∧ lvB n_names (defScope s_names) 8 "_law_sign" = true ∧ gvB (defScope s_names) "_law_pick" = true ∧ gvB (defScope s_names) "_law_take" = true ∧ gvB (defScope s_names) "range" = true := by decide +kernel
theorem cl_names {Γ : Gm} (dfn : Dfn Γ "_law_names" s_names ["_law_box_here", "_law_many"]) (T : Names Γ) (c_law_take : Cl Γ CX0 1 "_law_take" spTake []) (c_law_of : Cl Γ CX0 2 "_law_of" (spOf Γ.K) []) (c_law_pick : Cl Γ CX0 2 "_law_pick" (spPick Γ.K) []) : Cl Γ CX0 (4) "_law_names" (spNms Γ.K) [] := by
  refine dfn.cl sc_names (fun vs H Q E h => ?_) (fun f cdv A outer s H vs Q E hg h => ?_)
  · obtain ⟨b, n, m, rfl, _⟩ := h
    rfl
  obtain ⟨b, n, m, rfl, hb, hm, q⟩ := h
  have nd := sc_names.nd
  obtain ⟨v0, v1, v2, v3, v4, v5, v6, v7, v8, l2, l3, l8, g__law_pick, g__law_take, g_range⟩ := nm_names
  refine ⟨_, (pss_cons (pst (i := 2) nd l2 pe_str)
    (pss_cons (pst (i := 3) nd l3 (pe_op (k_add hg) pe_int (pcl c_law_take hg (by omega) g__law_take pass0 (pa_cons (ps 0 v0) (pa_cons pe_int pa_nil)))))
    (C8.pss_cut (ps_setLc (i := 4) (own := [("_law_turn", 9)]) rfl nd rfl rfl (sw_true rfl rfl rfl (by decide +kernel)) (pi_r1 g_range T.n_range (pa_cons (ps 3 v3) pa_nil)) (blkOk_by (N := n_names) (sc := defScope s_names) (by decide +kernel)) (fun _ _ _ _ _ => (pg_name (i := 9) nd rfl (by first | exact .inl rfl | exact .inr rfl))) (fun _ _ _ _ _ => pts_nil) (fun _ _ _ _ _ => (pcl c_law_of hg.blk (by omega) (by rfl) pass0 (pa_cons (psr 0) (pa_cons (psr 2) pa_nil)))))
    (pss_cons (ps_p3 (i := 5) (j := 6) (l := 7) rfl nd rfl rfl rfl (by decide) (by decide) (by decide) rfl rfl rfl (pa_cons (pcl c_law_take hg (by omega) g__law_take pass0 (pa_cons (ps 0 v0) (pa_cons pe_int pa_nil))) (pa_cons (pcl c_law_take hg (by omega) g__law_take pass0 (pa_cons (ps 0 v0) (pa_cons (ps 3 v3) pa_nil))) (pa_cons (pe_lst pa_nil) pa_nil))) (by rfl))
    (pss_cons (ps_for PassesOwn.never rfl (pi_l hg (pcl c_law_pick hg (by omega) g__law_pick pass0 (pa_cons (ps 0 v0) (pa_cons (ps 2 v2) (pa_cons (ps 1 v1) pa_nil))))) (pgn (i := 8) nd l8)
    (pss_one (ps_ifB (pt_cm (k_eq hg) (ps 5 v5) pe_int (nomark _))
    (pss_one (ps_expr (pe_bmK hg PySem.F.plainAttrs_list PySem.F.slot_list_append PySem.F.type_list_append mt_append (ps 7 v7) (pa_cons (ps 8 v8) pa_nil))))
    (pss_one (ps_ifB (pt_cm (k_lt hg) (ps 5 v5) pe_int (nomark _))
    (pss_one (ps_expr (pe_bmK hg PySem.F.plainAttrs_list PySem.F.slot_list_append PySem.F.type_list_append mt_append (ps 7 v7) (pa_cons (pe_jn hg pe_str (pe_op (k_add hg) (pe_op (k_add hg) (pe_slice (WL.ok hg) (ps 4 v4) po_none (po_pt (ps 6 v6))) (pe_lst (pa_cons (ps 8 v8) pa_nil))) (pe_slice (WL.ok hg) (ps 4 v4) (po_pt (pe_op (k_add hg) (ps 6 v6) pe_int)) po_none))) pa_nil))))
    (pss_one (ps_expr (pe_bmK hg PySem.F.plainAttrs_list PySem.F.slot_list_append PySem.F.type_list_append mt_append (ps 7 v7) (pa_cons (pe_op (k_add hg) (ps 8 v8) (pe_jn hg pe_str (pe_lc (own := [("_law_turn", 9)]) rfl nd (pi_r1 g_range T.n_range (pa_cons (pcl c_law_take hg (by omega) g__law_take pass0 (pa_cons (ps 0 v0) (pa_cons pe_int pa_nil))) pa_nil)) (blkOk_by (N := n_names) (sc := defScope s_names) (by decide +kernel)) (fun _ _ _ _ _ => (pg_name (i := 9) nd rfl (by first | exact .inl rfl | exact .inr rfl))) (fun _ _ _ _ _ => pts_nil) (fun _ _ _ _ _ => (pcl c_law_of hg.blk (by omega) (by rfl) pass0 (pa_cons (psr 0) (pa_cons (psr 2) pa_nil))))))) pa_nil)))))))))
    (pss_one (ps_ret (ps 7 v7)))))))), ?_⟩
  refine st_start (σ := [some _, some _, none, none, none, none, none, none, none, none]) rfl ?_
  walk_at "dn"
  refine ⟨b, 8, n + 499, rfl, by omega, by omega, hb, fun r H1 r0 r1 f1 b1 => ?_⟩
  walk_at "di"
  have hS1 : SS (E := E0v Γ.K) H [b] H1 [] [boxR b (n + 499)] := (SS.box1 (E := E0v Γ.K) hb).draw .here f1 b1
  refine ⟨fun σ' H' => ∃ (pb : Addr) (bs : List Nat), σ' = [some (.ref b), some (.int m), some (.str (Str.ofString "abcdefghijklmnopqrstuvwxyz")), some (.int (1 + r)), some (.ref pb), none, none, none, none, none] ∧
    SS (E := E0v Γ.K) H [b] H' [] [lstR pb (bs.map fun c => V.str (sg1 c)), boxR b (n + 490)] ∧ bs.length = (1 + r).toNat ∧ ∀ c ∈ bs, 97 ≤ c ∧ c ≤ 122, ⟨_, rfl, by omega, by omega, fun D hD => ?_⟩, ?_⟩
  · refine lq_it walk_range (fun i acc H' => ∃ cs : List Nat, acc = cs.map (fun c => V.str (sg1 c)) ∧ cs.length = i ∧ (∀ c ∈ cs, 97 ≤ c ∧ c ≤ 122) ∧ SS (E := E0v Γ.K) H [b] H' [] [lstR D acc, boxR b (n + 490 + (8 - i))])
      ⟨[], rfl, rfl, (fun _ h => nomatch h), ((hS1.draw .here (Fr.refl) ((hS1.box (.head _)).less (by omega))).newC (o := .lst []) hD (fun z => z))⟩ (fun _ _ _ _ _ => trivial) ?_ ?_
    · rintro i x acc H2 H3 hi hl ⟨cs, rfl, hlen, hcs, s⟩ ⟨rfl, rfl⟩
      walk_at "dn"
      have hbx := s.box (.tail _ (.head _))
      rw [show n + 490 + (8 - i) = n + 490 + (8 - (i + 1)) + 1 from by omega] at hbx
      refine ⟨rfl, b, _, n + 490 + (8 - (i + 1)), rfl, hbx, .inr ⟨_, rfl, by rw [let_len]; omega, by rw [let_len]; omega, fun c hc H4 f4 b4 => ?_⟩⟩
      have s4 := s.draw (.next .here) f4 b4
      refine lq_add s4 hl (lt_size (by omega)) ⟨_, lq_len hl, cs ++ [c], by rw [List.map_append]; rfl, by rw [List.length_append, hlen]; rfl, ?_, s4.app⟩
      intro d hd
      rcases List.mem_append.mp hd with h | h
      · exact hcs d h
      · rw [List.mem_singleton.mp h]; exact let_mem hc
    · rintro acc H2 hl ⟨cs, rfl, hlen, hcs, s⟩
      exact ⟨D, cs, rfl, s.draw (.next .here) (Fr.refl) ((s.box (.tail _ (.head _))).less (by omega)), hlen, hcs⟩
  · rintro σ' H2 ⟨pb, bs, rfl, s2, hbl, hbs⟩
    walk_at "di"
    refine ⟨b, 4, n + 489, rfl, by omega, by omega, s2.box (.tail _ (.head _)), fun kd H3 k0 k1 f3 b3 => ?_⟩
    have s3 := s2.draw (.next .here) f3 b3
    refine ⟨b, _, n + 488, rfl, by omega, by omega, b3, fun pl H4 p0 p1 f4 b4 => ?_⟩
    have s4 := s3.draw (.next .here) f4 b4
    refine ⟨szl (by simp only [List.length_nil]; omega), fun pf hpf => ?_⟩
    have s5 := s4.newC (o := .lst []) hpf (fun z => z)
    walk_at "di"
    refine ⟨b, _, sgs (Str.ofString "abcdefghijklmnopqrstuvwxyz"), n + 400, m, rfl, (s5.box (.tail _ (.tail _ (.head _)))).less (by omega), ?_, .inr ⟨_, rfl, rfl⟩, fun pp xs H6 hpp f6 b6 hxs hpm hxl => ?_⟩
    · unfold sgs; rw [List.length_map, show (Str.ofString "abcdefghijklmnopqrstuvwxyz").cps.toList.length = 26 from by decide +kernel]; omega
    obtain ⟨rr, hpm⟩ := hpm
    obtain ⟨cs, rfl, hcn, hcm⟩ := picked hpm let_nd
    have s6 := s5.drawN (.next (.next .here)) f6 (b6.less (show n + 8 * m ≤ n + 400 by omega)) hpp hxs (fun z => z)
    rw [List.length_map, show (sgs (Str.ofString "abcdefghijklmnopqrstuvwxyz")).length = 26 from by unfold sgs; rw [List.length_map]; decide +kernel] at hxl
    obtain ⟨pn, rfl⟩ : ∃ pn : Nat, pl = pn := ⟨pl.toNat, by omega⟩
    refine ⟨pp, rfl, ⟨_, SqL.of hxs⟩, ?_⟩
    refine lp_list (xs := cs.map fun c => V.str (sg1 c)) (fun i σ H' => ∃ (zs : List Str) (a8 a9 : Option V), σ = [some (.ref b), some (.int m), some (.str (Str.ofString "abcdefghijklmnopqrstuvwxyz")), some (.int (1 + r)), some (.ref pb), some (.int kd), some (.int pn), some (.ref pf), a8, a9] ∧
      SS (E := E0v Γ.K) H [b] H' [] [lstR pp (cs.map fun c => V.str (sg1 c)), lstR pf (zs.map V.str), lstR pb (bs.map fun c => V.str (sg1 c)), boxR b (n + 8 * (m - i))] ∧ zs.length = i ∧
      ∀ (j : Nat) (z : Str), zs[j]? = some z → Nm z ∧ ∃ c, cs[j]? = some c ∧ z.cps.toList[if kd = 1 ∨ kd = 2 then pn else 0]? = some c)
      ⟨[], none, none, rfl, s6, rfl, fun j z h => by simp at h⟩ (fun i σ H' hi ⟨_, _, _, _, s, _⟩ => SqL.of (s.cell (.head _))) ?_ ?_
    · rintro i x σ H7 hi ⟨zs, a8, a9, rfl, s7, hzl, hz⟩
      rw [List.getElem?_map] at hi
      obtain ⟨c, hci, rfl⟩ := Option.map_eq_some_iff.mp hi
      have hil : i < m := by have := (List.getElem?_eq_some_iff.mp hci).1; omega
      have hlc := let_mem (hcm c (List.mem_of_getElem? hci))
      have fin : ∀ (z : Str) (H' : Hp) (b9 : Option V), SS (E := E0v Γ.K) H [b] H' [] [lstR pp (cs.map fun c => V.str (sg1 c)), lstR pf (zs.map V.str), lstR pb (bs.map fun c => V.str (sg1 c)), boxR b (n + 8 * (m - (i + 1)))] →
          Nm z → z.cps.toList[if kd = 1 ∨ kd = 2 then pn else 0]? = some c → rAppend (.ref pf) [.str z] H' fun _ H'' => ∃ (zs : List Str) (a8 a9 : Option V), [some (.ref b), some (.int m), some (.str (Str.ofString "abcdefghijklmnopqrstuvwxyz")), some (.int (1 + r)), some (.ref pb), some (.int kd), some (.int pn), some (.ref pf), some (V.str (sg1 c)), b9] = [some (.ref b), some (.int m), some (.str (Str.ofString "abcdefghijklmnopqrstuvwxyz")), some (.int (1 + r)), some (.ref pb), some (.int kd), some (.int pn), some (.ref pf), a8, a9] ∧
      SS (E := E0v Γ.K) H [b] H'' [] [lstR pp (cs.map fun c => V.str (sg1 c)), lstR pf (zs.map V.str), lstR pb (bs.map fun c => V.str (sg1 c)), boxR b (n + 8 * (m - (i + 1)))] ∧ zs.length = i + 1 ∧
      ∀ (j : Nat) (z : Str), zs[j]? = some z → Nm z ∧ ∃ c, cs[j]? = some c ∧ z.cps.toList[if kd = 1 ∨ kd = 2 then pn else 0]? = some c := by
        intro z H' b9 s' hn hp
        refine ap_ss (v := V.str z) s' (.next .here) (lt_size (by rw [List.length_map]; omega)) fun H'' s'' => ⟨zs ++ [z], _, _, rfl, by rw [List.map_append]; exact s'', by rw [List.length_append, hzl]; rfl, fun j y hy => ?_⟩
        by_cases hj : j < i
        · rw [List.getElem?_append_left (by omega)] at hy; exact hz j y hy
        · have hj2 := (List.getElem?_eq_some_iff.mp hy).1
          rw [List.length_append, hzl] at hj2
          obtain rfl : j = i := by simp only [List.length_cons, List.length_nil] at hj2; omega
          rw [← hzl, List.getElem?_concat_length] at hy
          cases hy
          exact ⟨hn, c, hci, hp⟩
      have hbx := s7.box (.tail _ (.tail _ (.tail _ (.head _))))
      walk_at "dn"
      refine br_d (fun hk => ?_) (fun hk => br_d (fun hk3 => ?_) (fun hk3 => ?_))
      · refine ⟨ty_l (SqL.of (s7.cell (.tail _ (.head _)))), fin (sg1 c) H7 a9 (s7.draw (.next (.next (.next .here))) (Fr.refl) (hbx.less (by omega))) ⟨Nat.le_refl 1, (by show 1 ≤ 8; omega), ?_⟩ ?_⟩
        · intro d hd
          rw [List.mem_singleton.mp (show d ∈ [c] from hd)]; exact hlc
        · rw [if_neg (by omega)]; rfl
      · refine ⟨ty_l (SqL.of (s7.cell (.tail _ (.head _)))), ⟨_, rfl⟩, wl_l (SqL.of (s7.cell (.tail _ (.tail _ (.head _))))) fun p1 hp1 => ?_⟩
        rw [cut_to] at *
        refine ⟨szl (by simp only [List.length_cons, List.length_nil]; omega), fun p2 hp2 => ?_⟩
        have t1 := s7.newC (o := .lst ((bs.map fun c => V.str (sg1 c)).take pn)) hp1 (fun z => z)
        have t2 := t1.newC (o := .lst [V.str (sg1 c)]) hp2 (fun z => z)
        refine wo_cat (t2.cell (.tail _ (.head _))) (t2.cell (.head _)) (szl (by simp only [List.length_cons, List.length_nil, List.length_take, List.length_map]; omega)) fun p3 hp3 => ?_
        have t3 := t2.newC (o := .lst ((bs.map fun c => V.str (sg1 c)).take pn ++ [V.str (sg1 c)])) hp3 (fun z => z)
        refine wl_l (SqL.of (t3.cell (.tail _ (.tail _ (.tail _ (.tail _ (.tail _ (.head _)))))))) fun p4 hp4 => ?_
        rw [show ((pn : Int) + 1) = ((pn + 1 : Nat) : Int) from by omega, cut_from] at *
        have t4 := t3.newC (o := .lst ((bs.map fun c => V.str (sg1 c)).drop (pn + 1))) hp4 (fun z => z)
        refine wo_cat (t4.cell (.tail _ (.head _))) (t4.cell (.head _)) (szl (by simp only [List.length_append, List.length_cons, List.length_nil, List.length_take, List.length_drop, List.length_map]; omega)) fun p5 hp5 => ?_
        have t5 := t4.newC (o := .lst ((bs.map fun c => V.str (sg1 c)).take pn ++ [V.str (sg1 c)] ++ (bs.map fun c => V.str (sg1 c)).drop (pn + 1))) hp5 (fun z => z)
        have el : (bs.map fun c => V.str (sg1 c)).take pn ++ [V.str (sg1 c)] ++ (bs.map fun c => V.str (sg1 c)).drop (pn + 1) = ((bs.take pn ++ [c] ++ bs.drop (pn + 1)).map sg1).map V.str := by
          simp only [List.map_append, List.map_take, List.map_drop, List.map_map, List.map_cons, List.map_nil]
          rfl
        have ll : (bs.take pn ++ [c] ++ bs.drop (pn + 1)).length = bs.length := by
          simp only [List.length_append, List.length_cons, List.length_nil, List.length_take, List.length_drop]
          omega
        refine ⟨_, p5, (bs.take pn ++ [c] ++ bs.drop (pn + 1)).map sg1, rfl, rfl, .inl (SqL.of (by rw [← el]; exact t5.cell (.head _))), ?_, ?_⟩
        · rw [sg_sum, ll, List.length_map, ll, show (Str.ofString "").length = 0 from rfl]; omega
        · rw [jn1]
          refine fin _ _ _ (t5.drop.drop.drop.drop.drop.draw (.next (.next (.next .here))) (Fr.refl) ((t5.box (.tail _ (.tail _ (.tail _ (.tail _ (.tail _ (.tail _ (.tail _ (.tail _ (.head _)))))))))).less (by omega))) ⟨?_, ?_, fun d hd => ?_⟩ ?_
          · show 1 ≤ (bs.take pn ++ [c] ++ bs.drop (pn + 1)).toArray.size
            rw [List.size_toArray, ll]; omega
          · show (bs.take pn ++ [c] ++ bs.drop (pn + 1)).toArray.size ≤ 8
            rw [List.size_toArray, ll]; omega
          · have hd2 : d ∈ bs.take pn ++ [c] ++ bs.drop (pn + 1) := hd
            rcases List.mem_append.mp hd2 with h | h
            · rcases List.mem_append.mp h with h | h
              · exact hbs d (List.mem_of_mem_take h)
              · rw [List.mem_singleton.mp h]; exact hlc
            · exact hbs d (List.mem_of_mem_drop h)
          · rw [if_pos (by omega)]
            show (bs.take pn ++ [c] ++ bs.drop (pn + 1))[pn]? = some c
            rw [List.append_assoc, List.getElem?_append_right (by rw [List.length_take]; omega), List.length_take, Nat.min_eq_left (by omega), Nat.sub_self]
            rfl
      · refine ⟨ty_l (SqL.of (s7.cell (.tail _ (.head _)))), ⟨_, rfl⟩, b, 8, n + 8 * (m - (i + 1)) + 7, rfl, by omega, by omega, hbx.less (by omega), fun r2 H8 q0 q1 f8 b8 => ⟨r2, rfl, by omega, by omega, fun D hD => ?_⟩⟩
        have s8 := s7.draw (.next (.next (.next .here))) f8 b8
        refine lq_it walk_range (fun i2 acc H' => ∃ cs2 : List Nat, acc = cs2.map (fun c => V.str (sg1 c)) ∧ cs2.length = i2 ∧ (∀ c ∈ cs2, 97 ≤ c ∧ c ≤ 122) ∧ SS (E := E0v Γ.K) H [b] H' [] [lstR D acc, lstR pp (cs.map fun c => V.str (sg1 c)), lstR pf (zs.map V.str), lstR pb (bs.map fun c => V.str (sg1 c)), boxR b (n + 8 * (m - (i + 1)) + (7 - i2))])
          ⟨[], rfl, rfl, (fun _ h => nomatch h), s8.newC (o := .lst []) hD (fun z => z)⟩ (fun _ _ _ _ _ => trivial) ?_ ?_
        · rintro i2 x acc H9 H10 hi2 hl2 ⟨cs2, rfl, hlen2, hcs2, s⟩ ⟨rfl, rfl⟩
          walk_at "dn"
          have hb2 := s.box (.tail _ (.tail _ (.tail _ (.tail _ (.head _)))))
          rw [show n + 8 * (m - (i + 1)) + (7 - i2) = n + 8 * (m - (i + 1)) + (7 - (i2 + 1)) + 1 from by omega] at hb2
          refine ⟨rfl, b, _, n + 8 * (m - (i + 1)) + (7 - (i2 + 1)), rfl, hb2, .inr ⟨_, rfl, by rw [let_len]; omega, by rw [let_len]; omega, fun c2 hc2 H11 f11 b11 => ?_⟩⟩
          have s11 := s.draw (.next (.next (.next (.next .here)))) f11 b11
          refine lq_add s11 hl2 (lt_size (by omega)) ⟨_, lq_len hl2, cs2 ++ [c2], by rw [List.map_append]; rfl, by rw [List.length_append, hlen2]; rfl, ?_, s11.app⟩
          intro d hd
          rcases List.mem_append.mp hd with h | h
          · exact hcs2 d h
          · rw [List.mem_singleton.mp h]; exact let_mem hc2
        · rintro acc H9 hl2 ⟨cs2, rfl, hlen2, hcs2, s⟩
          have hc7 : cs2.length ≤ 7 := by omega
          refine ⟨_, D, cs2.map sg1, rfl, rfl, .inl (SqL.of (by have := s.cell (.head _); rw [List.map_map]; exact this)), ?_, ?_⟩
          · rw [sg_sum, List.length_map, show (Str.ofString "").length = 0 from rfl]; omega
          · rw [jn1]
            walk_at "di"
            have ll : (sg1 c ++ (⟨cs2.toArray⟩ : Str)).cps.toList = c :: cs2 := by rw [app_list]; rfl
            have ln : (sg1 c ++ (⟨cs2.toArray⟩ : Str)).length = cs2.length + 1 := by
              show (sg1 c ++ (⟨cs2.toArray⟩ : Str)).cps.size = _
              rw [← Array.length_toList, ll]; rfl
            refine ⟨Nat.le_of_lt (lt_size (by show 1 + cs2.toArray.size < 100000; rw [List.size_toArray]; omega)), fin _ _ _ (s.drop.draw (.next (.next (.next .here))) (Fr.refl) ((s.box (.tail _ (.tail _ (.tail _ (.tail _ (.head _)))))).less (by omega))) ⟨by rw [ln]; omega, by rw [ln]; omega, fun d hd => ?_⟩ ?_⟩
            · rw [ll] at hd
              rcases List.mem_cons.mp hd with h | h
              · rw [h]; exact hlc
              · exact hcs2 d h
            · rw [if_neg (by omega), ll]; rfl
    · rintro σ H7 ⟨zs, a8, a9, rfl, s7, hzl, hz⟩
      have hzm : zs.length = m := by rw [hzl, List.length_map]; omega
      refine q pf zs H7 ?_ s7.fr ((s7.box (.tail _ (.tail _ (.tail _ (.head _))))).less (by omega)) (s7.cell (.tail _ (.head _))) hzm ?_ fun z hz2 => ?_
      · cases e : H pf with
        | none => rfl
        | some o =>
          exfalso
          by_cases hs : pf = b
          · obtain ⟨xs, e2⟩ := b4.cell
            rw [hs, e2] at hpf; cases hpf
          · rw [s4.fr pf o (fun z => hs (List.mem_singleton.mp z)) e] at hpf; cases hpf
      · refine List.pairwise_iff_getElem.mpr fun j k hj hk hjk he => ?_
        obtain ⟨_, c1, hc1, hp1⟩ := hz j _ (List.getElem?_eq_getElem hj)
        obtain ⟨_, c2, hc2, hp2⟩ := hz k _ (List.getElem?_eq_getElem hk)
        rw [he, hp2] at hp1
        cases hp1
        have := nd_ix hcn hc1 hc2
        omega
      · obtain ⟨j, hj⟩ := List.mem_iff_getElem?.mp hz2
        exact (hz j z hj).1
def LET : Str := "abcdefghijklmnopqrstuvwxyz"
def spIsNum : Sp := fun vs H Q _ => ∃ i : Int, vs = [.int i] ∧ Q (.bl true) H
def spIsName : Sp := fun vs H Q _ => ∃ z, vs = [.str z] ∧ Nm z ∧ ∀ H', Same H H' → Q (.bl true) H'
def spBackOf (K : PySem.W.Frag) (d : Nat) : Sp := fun vs H Q _ => ∃ (p : Addr) (t : Tr), vs = [.ref p] ∧ TrP K H t p ∧ t.walk ∧ t.dep ≤ d ∧ ∀ q H', Same H H' → TrP K H' t.back q → Q (.ref q) H'
def spRep (K : PySem.W.Frag) : Sp := fun vs H Q _ => ∃ (p : Addr) (t : Tr) (n : Nat), vs = [.ref p, .int n] ∧ TrP K H t p ∧ n ≤ 9 ∧ ∀ q H', Same H H' → TrP K H' (t.grp n) q → Q (.ref q) H'
def spParts (K : PySem.W.Frag) : Sp := fun vs H Q _ => ∃ (p : Addr) (t : Tr), vs = [.ref p] ∧ TrP K H t p ∧ ∀ l ps H', H l = none → Same H H' → H' l = some (.lst (ps.map V.ref)) → TrPs K H' t.subs ps → Q (.ref l) H'
def spNames (K : PySem.W.Frag) (d : Nat) : Sp := fun vs H Q _ => ∃ (p : Addr) (t : Tr) (w : Str), vs = [.ref p, .str w] ∧ (w = "step" ∨ w = "marked") ∧ t.ok ∧ TrP K H t p ∧ t.dep ≤ d ∧ (t.told w).length < 64 ∧
  ∀ q ys H', Same H H' → SqT K H' q (ys.map V.str) → sortedS ys = true → ys.Nodup → (∀ z, z ∈ ys ↔ z ∈ t.told w) → Q (.ref q) H'
def spSteps (K : PySem.W.Frag) (d : Nat) : Sp := fun vs H Q _ => ∃ (p : Addr) (t : Tr), vs = [.ref p] ∧ t.ok ∧ TrP K H t p ∧ t.dep ≤ d ∧ ∀ H', Same H H' → Q (.int t.steps) H'
abbrev s_isnum : Stmt := topS 8
abbrev n_isnum : List Str := ["value"]
theorem sc_isnum : FnScope n_isnum ["value"] (defScope s_isnum) := ⟨rfl, rfl, rfl, by decide +kernel, rfl, by decide +kernel, by decide +kernel⟩
theorem nm_isnum : nvB n_isnum (defScope s_isnum) 0 "value" = true ∧ gvB (defScope s_isnum) "bool" = true ∧ gvB (defScope s_isnum) "int" = true ∧ gvB (defScope s_isnum) "isinstance" = true := by decide +kernel
theorem cl_isnum {Γ : Gm} (dfn : Dfn Γ "is_number" s_isnum ["value"]) (T : Names Γ) : Cl Γ CX0 (1) "is_number" spIsNum [] := by
  refine dfn.cl sc_isnum (fun vs H Q E h => ?_) (fun f cdv A outer s H vs Q E hg h => ?_)
  · obtain ⟨i, rfl, _⟩ := h
    rfl
  obtain ⟨i, rfl, q⟩ := h
  have nd := sc_isnum.nd
  obtain ⟨v0, g_bool, g_int, g_isinstance⟩ := nm_isnum
  refine ⟨_, (pss_one (ps_ret (pe_and2 hg (pcb (WC.ok hg) g_isinstance T.n_isinstance bt_isinstance (pa_cons (ps 0 v0) (pa_cons (pe_bltn (v := .ty "int") (gv_of g_int).1 T.n_int bt_int rfl) pa_nil))) (pe_one (pe_not2 hg (pcb (WC.ok hg) g_isinstance T.n_isinstance bt_isinstance (pa_cons (ps 0 v0) (pa_cons (pe_bltn (v := .ty "bool") (gv_of g_bool).1 T.n_bool bt_bool rfl) pa_nil)))))))), ?_⟩
  refine st_start (σ := [some _]) rfl ?_
  walk_at "dn"
  refine wc_isi (.ty "int") (.base (.int _)) (kit_ty (r := true) (by decide +kernel)) ?_
  walk_at "di"
  refine wc_isi (.ty "bool") (.base (.int _)) (kit_ty (r := false) (by decide +kernel)) ?_
  walk_at "di"
  exact q
abbrev s_isname : Stmt := topS 9
abbrev n_isname : List Str := ["value", "sign"]
theorem sc_isname : FnScope n_isname ["value"] (defScope s_isname) := ⟨rfl, rfl, rfl, by decide +kernel, rfl, by decide +kernel, by decide +kernel⟩
theorem nm_isname : nvB n_isname (defScope s_isname) 0 "value" = true ∧ gvB (defScope s_isname) "all" = true ∧ gvB (defScope s_isname) "isinstance" = true ∧ gvB (defScope s_isname) "len" = true ∧ gvB (defScope s_isname) "str" = true := by decide +kernel
theorem cl_isname {Γ : Gm} (dfn : Dfn Γ "is_name" s_isname ["value"]) (T : Names Γ) (gc_LETTERS : ∃ u, Γ.mg "LETTERS" = some u ∧ RelV (.str LET) u) : Cl Γ CX0 (1) "is_name" spIsName [] := by
  refine dfn.cl sc_isname (fun vs H Q E h => ?_) (fun f cdv A outer s H vs Q E hg h => ?_)
  · obtain ⟨i, rfl, _⟩ := h
    rfl
  obtain ⟨z, rfl, ⟨n1, n2, n3⟩, q⟩ := h
  have nd := sc_isname.nd
  obtain ⟨v0, g_all, g_isinstance, g_len, g_str⟩ := nm_isname
  refine ⟨_, (pss_one (ps_ret (pe_and2 hg (pcb (WC.ok hg) g_isinstance T.n_isinstance bt_isinstance (pa_cons (ps 0 v0) (pa_cons (pe_bltn (v := .ty "str") (gv_of g_str).1 T.n_str bt_str rfl) pa_nil))) (pe_and2 hg (pe_ch (k_le hg) (k_le hg) pe_int (pcb (k_len hg) g_len T.n_len bt_len (pa_cons (ps 0 v0) pa_nil)) pe_int) (pe_one (pcb (WC.ok hg) g_all T.n_all bt_all (pa_cons (pe_lc (own := [("sign", 1)]) rfl nd (pi_str (ps 0 v0)) (blkOk_by (N := n_isname) (sc := defScope s_isname) (by decide +kernel)) (fun _ _ _ _ _ => (pg_name (i := 1) nd rfl (by first | exact .inl rfl | exact .inr rfl))) (fun _ _ _ _ _ => pts_nil) (fun _ _ _ _ _ => (pe_cmpR (WO.ok hg.blk) (psr 1) (C8.pe_gc (gv_of (by rfl)).1 gc_LETTERS) (by with_unfolding_all rfl)))) pa_nil))))))), ?_⟩
  refine st_start (σ := [some _, none]) rfl ?_
  walk_at "dn"
  refine wc_isi (.ty "str") (.base (.str _)) (kit_ty (r := true) (by decide +kernel)) ?_
  walk_at "di"
  refine ⟨szl (by omega), br_t (by omega) (br_t (by omega) ⟨z, rfl, fun D hD => ?_⟩)⟩
  refine lq_it walk_str (fun i acc H' => SS (E := E1 Γ) H [] H' [] [lstR D acc] ∧ acc = (List.replicate i true).map V.bl) ⟨SS.start0.newC hD (fun z => z), rfl⟩ (fun _ _ _ _ _ => trivial) ?_ ?_
  · rintro i x acc H1 H2 hi hl ⟨s, ha⟩ ⟨rfl, c, hc, rfl⟩
    walk_at "dn"
    refine ⟨rfl, wo_in1 ?_⟩
    have hcm : c ∈ z.cps.toList := by rw [Array.mem_toList_iff]; exact Array.mem_of_getElem? hc
    have h97 := n3 c hcm
    have e : decide (c ∈ LET.cps.toList) = true := by
      have key : ∀ n : Fin 26, decide (97 + n.val ∈ LET.cps.toList) = true := by decide +kernel
      have := key ⟨c - 97, by omega⟩
      rw [show 97 + (c - 97) = c from by omega] at this
      exact this
    rw [e]
    refine lq_add s hl (lt_size (by have h2 : i < z.length := hi; omega)) ⟨_, lq_len hl, s.app, ?_⟩
    rw [ha, List.replicate_succ', List.map_append]
    rfl
  · rintro acc H1 hl ⟨s, ha⟩
    subst ha
    refine wc_all (SqL.of (s.cell (.head _))) ?_
    rw [show (List.replicate z.cps.size true).all id = true from by simp]
    exact q H1 s.fr.same
abbrev s_backof : Stmt := topS 11
abbrev n_backof : List Str := ["tree", "first", "second"]
theorem sc_backof : FnScope n_backof ["tree"] (defScope s_backof) := ⟨rfl, rfl, rfl, by decide +kernel, rfl, by decide +kernel, by decide +kernel⟩
theorem nm_backof : nvB n_backof (defScope s_backof) 0 "tree" = true ∧ nvB n_backof (defScope s_backof) 1 "first" = true ∧ nvB n_backof (defScope s_backof) 2 "second" = true ∧ lvB n_backof (defScope s_backof) 1 "first" = true ∧ lvB n_backof (defScope s_backof) 2 "second" = true ∧ gvB (defScope s_backof) "back_of" = true := by decide +kernel
theorem cl_backof {Γ : Gm} (dfn : Dfn Γ "back_of" s_backof ["tree"]) (T : Names Γ) {d : Nat} (c_back_of : Cl Γ CX0 (d + 1) "back_of" (spBackOf Γ.K d) []) : Cl Γ CX0 (d + 2) "back_of" (spBackOf Γ.K (d + 1)) [] := by
  refine dfn.cl sc_backof (fun vs H Q E h => ?_) (fun f cdv A outer s H vs Q E hg h => ?_)
  · obtain ⟨i, t, rfl, _⟩ := h
    rfl
  obtain ⟨p, t, rfl, hp, hw, hd, q⟩ := h
  have nd := sc_backof.nd
  obtain ⟨v0, v1, v2, l1, l2, g_back_of⟩ := nm_backof
  refine ⟨_, (pss_cons (ps_ifB (pt_cm (k_eq hg) (pe_ix (WX.ok hg) (ps 0 v0) pe_int (fun _ _ => rfl)) pe_str (nomark _))
    (pss_one (ps_ret (ps 0 v0)))
    pss_nil)
    (pss_cons (ps_ifB (pt_cm (k_eq hg) (pe_ix (WX.ok hg) (ps 0 v0) pe_int (fun _ _ => rfl)) pe_str (nomark _))
    (pss_one (ps_ret (pe_tup (pa_cons pe_str (pa_cons (pe_ix (WX.ok hg) (ps 0 v0) pe_int (fun _ _ => rfl)) (pa_cons (pe_un (k_neg hg) (pe_ix (WX.ok hg) (ps 0 v0) pe_int (fun _ _ => rfl))) pa_nil))))))
    pss_nil)
    (pss_cons (ps_ifB (pt_cm (k_eq hg) (pe_ix (WX.ok hg) (ps 0 v0) pe_int (fun _ _ => rfl)) pe_str (nomark _))
    (pss_cons (pst (i := 1) nd l1 (pcl c_back_of hg (by omega) g_back_of pass0 (pa_cons (pe_ix (WX.ok hg) (ps 0 v0) pe_int (fun _ _ => rfl)) pa_nil)))
    (pss_cons (pst (i := 2) nd l2 (pcl c_back_of hg (by omega) g_back_of pass0 (pa_cons (pe_ix (WX.ok hg) (ps 0 v0) pe_int (fun _ _ => rfl)) pa_nil)))
    (pss_one (ps_ifB (PW.pt (pw_andB (pt_cm (k_isnot hg) (ps 1 v1) pe_non (nomark _)) (pw_and1 (pt_cm (k_isnot hg) (ps 2 v2) pe_non (nomark _)))))
    (pss_one (ps_ret (pe_tup (pa_cons pe_str (pa_cons (ps 1 v1) (pa_cons (ps 2 v2) pa_nil))))))
    pss_nil))))
    pss_nil)
    (pss_one (ps_ret pe_non))))), ?_⟩
  refine st_start (σ := [some _, none, none]) rfl ?_
  walk_at "dn"
  cases t with
  | mk _ => exact hw.elim
  | one _ _ => exact hw.elim
  | z w =>
    obtain rfl : w = "here" := hw
    refine wx_t hp (v := .str "here") (atG (j := 0) rfl rfl) ?_
    walk_at "di"
    exact br_t rfl (q p H (Same.refl _) hp)
  | st k e =>
    refine wx_t hp (v := .str "step") (atG (j := 0) rfl rfl) ?_
    walk_at "di"
    refine br_f (by decide +kernel) ?_
    refine wx_t hp (v := .str "step") (atG (j := 0) rfl rfl) ?_
    walk_at "di"
    refine br_t rfl ?_
    refine wx_t hp (v := .str k) (atG (j := 1) rfl rfl) ?_
    refine wx_t hp (v := .int e) (atG (j := 2) rfl rfl) ?_
    walk_at "di"
    exact ⟨szl (by simp only [List.length_cons, List.length_nil]; omega), fun p' hp' => q p' _ (Same.mk hp') (SqT.of upd_same)⟩
  | two w a b =>
    obtain ⟨rfl, wa, wb⟩ := hw
    obtain ⟨q1, r1, h, ha, hb⟩ := hp
    have hd' : max a.dep b.dep + 1 ≤ d + 1 := hd
    refine wx_t h (v := .str "then") (atG (j := 0) rfl rfl) ?_
    walk_at "di"
    refine br_f (by decide +kernel) ?_
    refine wx_t h (v := .str "then") (atG (j := 0) rfl rfl) ?_
    walk_at "di"
    refine br_f (by decide +kernel) ?_
    refine wx_t h (v := .str "then") (atG (j := 0) rfl rfl) ?_
    walk_at "di"
    refine br_t rfl ?_
    refine wx_t h (v := .ref r1) (atG (j := 2) rfl rfl) ?_
    refine ⟨r1, b, rfl, hb, wb, by omega, fun u H1 s1 hu => ?_⟩
    refine wx_t ((Fr.of (S := []) s1).sqt h List.not_mem_nil) (v := .ref q1) (atG (j := 1) rfl rfl) ?_
    refine ⟨q1, a, rfl, ha.same s1, wa, by omega, fun v H2 s2 hv => ?_⟩
    walk_at "di"
    exact ⟨szl (by simp only [List.length_cons, List.length_nil]; omega), fun p' hp' => q p' _ ((s1.trans s2).trans (Same.mk hp')) ⟨u, v, SqT.of upd_same, (hu.same s2).same (Same.mk hp'), hv.same (Same.mk hp')⟩⟩
abbrev s_rep : Stmt := topS 12
abbrev n_rep : List Str := ["tree", "count", "made", "nth"]
theorem sc_rep : FnScope n_rep ["tree", "count"] (defScope s_rep) := ⟨rfl, rfl, rfl, by decide +kernel, rfl, by decide +kernel, by decide +kernel⟩
theorem nm_rep : nvB n_rep (defScope s_rep) 0 "tree" = true ∧ nvB n_rep (defScope s_rep) 1 "count" = true ∧ nvB n_rep (defScope s_rep) 2 "made" = true ∧ lvB n_rep (defScope s_rep) 2 "made" = true ∧ lvB n_rep (defScope s_rep) 3 "nth" = true ∧ gvB (defScope s_rep) "range" = true := by decide +kernel
theorem cl_rep {Γ : Gm} (dfn : Dfn Γ "repeated" s_rep ["tree", "count"]) (T : Names Γ) : Cl Γ CX0 (1) "repeated" (spRep Γ.K) [] := by
  refine dfn.cl sc_rep (fun vs H Q E h => ?_) (fun f cdv A outer s H vs Q E hg h => ?_)
  · obtain ⟨i, t, n, rfl, _⟩ := h
    rfl
  obtain ⟨p, t, n, rfl, hp, hn, q⟩ := h
  have nd := sc_rep.nd
  obtain ⟨v0, v1, v2, l2, l3, g_range⟩ := nm_rep
  refine ⟨_, (pss_cons (pst (i := 2) nd l2 (pe_ifB (pt_tr hg (ps 1 v1)) (ps 0 v0) (pe_tup (pa_cons pe_str pa_nil))))
    (pss_cons (ps_for PassesOwn.never rfl (pi_r2 g_range T.n_range (pa_cons pe_int (pa_cons (ps 1 v1) pa_nil))) (pgn (i := 3) nd l3)
    (pss_one (pst (i := 2) nd l2 (pe_tup (pa_cons pe_str (pa_cons (ps 2 v2) (pa_cons (ps 0 v0) pa_nil)))))))
    (pss_one (ps_ret (ps 2 v2))))), ?_⟩
  refine st_start (σ := [some _, some _, none, none]) rfl ?_
  walk_at "dn"
  have main : ∀ (m : Nat) (p0 : Addr) (H0 : Hp), Same H H0 → TrP Γ.K H0 (t.grp (if n = 0 then 0 else 1)) p0 → LP (Itr 1 ((n : Int) - 1).toNat) (gName 3)
              (tAsg (tTup (tCons (tC (V.str (Str.ofString "then"))) (tCons (tS 2) (tCons (tS 0) tNil)))) (gName 2))
              { nx := tRet (tS 2) { nx := fun x H' => Q V.non H', rt := Q }, rt := Q }
              [some (V.ref p), some (V.int n), some (V.ref p0), none] H0 := by
    intro _ p0 H0 s0 h0
    refine lp_range (fun i σ H' => ∃ (p' : Addr) (a : Option V), σ = [some (.ref p), some (.int n), some (.ref p'), a] ∧ Same H H' ∧ TrP Γ.K H' (t.grp (if n = 0 then 0 else i + 1)) p') ⟨p0, none, rfl, s0, h0⟩ ?_ ?_
    · rintro i σ H1 hi ⟨p', a, rfl, s1, h1⟩
      have n0 : n ≠ 0 := by omega
      rw [if_neg n0] at h1
      walk_at "dn"
      refine ⟨szl (by simp only [List.length_cons, List.length_nil]; omega), fun p2 hp2 => ⟨p2, _, rfl, s1.trans (Same.mk hp2), ?_⟩⟩
      rw [if_neg n0]
      exact ⟨p', p, SqT.of upd_same, h1.same (Same.mk hp2), (hp.same s1).same (Same.mk hp2)⟩
    · rintro σ H1 ⟨p', a, rfl, s1, h1⟩
      refine q p' H1 s1 ?_
      by_cases n0 : n = 0
      · rw [if_pos n0] at h1; rw [n0]; exact h1
      · rw [if_neg n0, show ((n : Int) - 1).toNat + 1 = n from by omega] at h1; exact h1
  refine br_b (fun e => ?_) (fun e => ?_)
  · have n0 : n ≠ 0 := by rintro rfl; simp at e
    exact ⟨1, n, rfl, by omega, main 0 p H (Same.refl _) (by rw [if_neg n0]; exact hp)⟩
  · have n0 : n = 0 := by
      cases n with
      | zero => rfl
      | succ m => simp at e; omega
    exact ⟨szl (by simp only [List.length_cons, List.length_nil]; omega), fun p1 hp1 => ⟨1, n, rfl, by omega, main 0 p1 _ (Same.mk hp1) (by rw [if_pos n0]; exact SqT.of upd_same)⟩⟩
abbrev s_parts : Stmt := topS 13
abbrev n_parts : List Str := ["tree", "part"]
theorem sc_parts : FnScope n_parts ["tree"] (defScope s_parts) := ⟨rfl, rfl, rfl, by decide +kernel, rfl, by decide +kernel, by decide +kernel⟩
theorem nm_parts : nvB n_parts (defScope s_parts) 0 "tree" = true := by decide +kernel
theorem cl_parts {Γ : Gm} (dfn : Dfn Γ "parts_of" s_parts ["tree"]) (T : Names Γ) : Cl Γ CX0 (1) "parts_of" (spParts Γ.K) [] := by
  refine dfn.cl sc_parts (fun vs H Q E h => ?_) (fun f cdv A outer s H vs Q E hg h => ?_)
  · obtain ⟨i, t, rfl, _⟩ := h
    rfl
  obtain ⟨p, t, rfl, hp, q⟩ := h
  have nd := sc_parts.nd
  obtain v0 := nm_parts
  refine ⟨_, (pss_one (ps_ret (pe_lc (own := [("part", 1)]) rfl nd (pi_t hg (pe_slice (WL.ok hg) (ps 0 v0) (po_pt pe_int) po_none)) (blkOk_by (N := n_parts) (sc := defScope s_parts) (by decide +kernel)) (fun _ _ _ _ _ => (pg_name (i := 1) nd rfl (by first | exact .inl rfl | exact .inr rfl))) (fun _ _ _ _ _ => (pts_one (pt_tr hg.blk (pcb (WC.ok hg.blk) (by rfl) T.n_isinstance bt_isinstance (pa_cons (psr 1) (pa_cons (pe_bltn (v := .ty "tuple") (gv_of (by rfl)).1 T.n_tuple bt_tuple rfl) pa_nil)))))) (fun _ _ _ _ _ => (psr 1))))), ?_⟩
  refine st_start (σ := [some _, none]) rfl ?_
  walk_at "dn"
  obtain ⟨r, hx, hr, hr5⟩ := hp.rest
  obtain ⟨ps, he, hps⟩ := hr.ps
  refine wl_tl hx fun p2 hp2 => ⟨p2, rfl, ⟨_, SqT.of upd_same⟩, fun D hD => ?_⟩
  have s0 : SS (E := E1 Γ) H [] (upd H p2 (.tup r)) [tupF p2 r] [] := SS.start0.newT hp2
  refine lq_it walk_tup (fun i acc H' => SS (E := E1 Γ) H [] H' [tupF p2 r] [lstR D acc] ∧ acc = (r.take i).filter isRef) ⟨s0.newC hD (fun z => z), rfl⟩ (fun _ _ _ _ h => h.1.tup (.head _)) ?_ ?_
  · rintro i x acc H1 H2 hi hl ⟨s, ha⟩ ⟨rfl, hx2⟩
    walk_at "dn"
    have hx3 : r[i]? = some x := hx2
    refine ⟨rfl, ?_⟩
    rcases hr.at hx3 with ⟨z, rfl⟩ | ⟨j, rfl⟩ | ⟨p3, t3, rfl, h3⟩
    · refine wc_isi (.ty "tuple") (.base (.str _)) (kit_ty (r := false) (by decide +kernel)) ?_
      walk_at "di"
      refine ⟨acc, by omega, s, ?_⟩
      rw [List.take_add_one, hx3, List.filter_append, ha]
      simp [isRef]
    · refine wc_isi (.ty "tuple") (.base (.int _)) (kit_ty (r := false) (by decide +kernel)) ?_
      walk_at "di"
      refine ⟨acc, by omega, s, ?_⟩
      rw [List.take_add_one, hx3, List.filter_append, ha]
      simp [isRef]
    · obtain ⟨r3, h4, _, _⟩ := h3.rest
      refine wc_isi (.ty "tuple") (sqt_ty ((Fr.of (S := []) s.fr.same).sqt h4 List.not_mem_nil)) (kit_ty (r := true) (by decide +kernel)) ?_
      walk_at "di"
      refine lq_add s hl (lt_size (by omega)) ⟨_, lq_len hl, s.app, ?_⟩
      rw [List.take_add_one, hx3, List.filter_append, ha]
      rfl
  · rintro acc H1 hl ⟨s, ha⟩
    rw [List.take_length, he] at ha
    subst ha
    have fr := s.fr.same
    refine q D ps H1 ?_ fr (s.cell (.head _)) (hps.same fr)
    cases e : H D with
    | none => rfl
    | some o => rw [Same.mk hp2 D o e] at hD; cases hD
abbrev s_names_in : Stmt := topS 14
abbrev n_names_in : List Str := ["tree", "word", "found", "part"]
theorem sc_names_in : FnScope n_names_in ["tree", "word"] (defScope s_names_in) := ⟨rfl, rfl, rfl, by decide +kernel, rfl, by decide +kernel, by decide +kernel⟩
theorem nm_names_in : nvB n_names_in (defScope s_names_in) 0 "tree" = true ∧ nvB n_names_in (defScope s_names_in) 1 "word" = true ∧ nvB n_names_in (defScope s_names_in) 2 "found" = true ∧ nvB n_names_in (defScope s_names_in) 3 "part" = true ∧ lvB n_names_in (defScope s_names_in) 2 "found" = true ∧ lvB n_names_in (defScope s_names_in) 3 "part" = true ∧ gvB (defScope s_names_in) "list" = true ∧ gvB (defScope s_names_in) "names_in" = true ∧ gvB (defScope s_names_in) "parts_of" = true ∧ gvB (defScope s_names_in) "set" = true ∧ gvB (defScope s_names_in) "sorted" = true ∧ gvB (defScope s_names_in) "tuple" = true := by decide +kernel
theorem cl_names_in {Γ : Gm} (dfn : Dfn Γ "names_in" s_names_in ["tree", "word"]) (T : Names Γ) {d : Nat} (c_names_in : Cl Γ CX0 (d + 1) "names_in" (spNames Γ.K d) []) (c_parts_of : Cl Γ CX0 1 "parts_of" (spParts Γ.K) []) : Cl Γ CX0 (d + 2) "names_in" (spNames Γ.K (d + 1)) [] := by
  refine dfn.cl sc_names_in (fun vs H Q E h => ?_) (fun f cdv A outer s H vs Q E hg h => ?_)
  · obtain ⟨i, t, w, rfl, _⟩ := h
    rfl
  obtain ⟨p, t, w, rfl, hw, ok, hp, hd, ht, q⟩ := h
  have nd := sc_names_in.nd
  obtain ⟨v0, v1, v2, v3, l2, l3, g_list, g_names_in, g_parts_of, g_set, g_sorted, g_tuple⟩ := nm_names_in
  refine ⟨_, (pss_cons (pst (i := 2) nd l2 (pe_ifB (pt_cm (k_eq hg) (pe_ix (WX.ok hg) (ps 0 v0) pe_int (fun _ _ => rfl)) (ps 1 v1) (nomark _)) (pe_lst (pa_cons (pe_ix (WX.ok hg) (ps 0 v0) pe_int (fun _ _ => rfl)) pa_nil)) (pe_lst pa_nil)))
    (pss_cons (ps_for PassesOwn.never rfl (pi_l hg (pcl c_parts_of hg (by omega) g_parts_of pass0 (pa_cons (ps 0 v0) pa_nil))) (pgn (i := 3) nd l3)
    (pss_one (pst (i := 2) nd l2 (pe_op (k_add hg) (ps 2 v2) (pct (WC.ok hg) g_list T.n_list bt_list (pa_cons (pcl c_names_in hg (by omega) g_names_in pass0 (pa_cons (ps 3 v3) (pa_cons (ps 1 v1) pa_nil))) pa_nil))))))
    (pss_one (ps_ret (pct (WC.ok hg) g_tuple T.n_tuple bt_tuple (pa_cons (pcb (WC.ok hg) g_sorted T.n_sorted bt_sorted (pa_cons (pct (WC.ok hg) g_set T.n_set bt_set (pa_cons (ps 2 v2) pa_nil)) pa_nil)) pa_nil)))))), ?_⟩
  refine st_start (σ := [some _, some _, none, none]) rfl ?_
  walk_at "dn"
  obtain ⟨r, hx, hr, hr5⟩ := hp.rest
  have main : ∀ (H0 : Hp) (f0 : Addr), Same H H0 → H0 f0 = some (.lst ((t.top w).map V.str)) → spParts Γ.K [V.ref p] H0 (fun x H1 =>
                        ∃ a, x = V.ref a ∧ (∃ xs, SqL Γ.K H1 a xs) ∧
                              LP (Itl Γ.K a) (gName 3)
                                (tAsg (tOp (oAdd (Γ.at (d + 1))) (tS 2) (tCB (WC (Γ.at (d + 1)) (Value.type "list")) (tCons (tCall (spNames Γ.K d) [] E0 (tCons (tS 3) (tCons (tS 1) tNil))) tNil))) (gName 2))
                                { nx := tRet (tCB (WC (Γ.at (d + 1)) (Value.type "tuple")) (tCons (tCB (WC (Γ.at (d + 1)) (Value.builtin "sorted")) (tCons (tCB (WC (Γ.at (d + 1)) (Value.type "set")) (tCons (tS 2) tNil)) tNil)) tNil))
                                      { nx := fun x H' => Q V.non H', rt := Q }, rt := Q }
                                [some (V.ref p), some (V.str w), some (V.ref f0), none] H1) E0 := by
    intro H0 f0 s0 h0
    refine ⟨p, t, rfl, hp.same s0, fun l ps H1 hl s1 hl1 hps => ⟨l, rfl, ⟨_, SqL.of hl1⟩, ?_⟩⟩
    have hlen : ps.length = t.subs.length := hps.len
    refine lp_list (xs := ps.map V.ref) (fun i σ H' => ∃ (fa : Addr) (zs : List Str) (a : Option V), σ = [some (.ref p), some (.str w), some (.ref fa), a] ∧ Same H1 H' ∧ H' fa = some (.lst (zs.map V.str)) ∧
        (∀ z, z ∈ zs ↔ z ∈ t.top w ++ ((t.subs.take i).map (Tr.told w)).flatten) ∧ zs.length ≤ (t.top w ++ ((t.subs.take i).map (Tr.told w)).flatten).length)
      ⟨f0, t.top w, none, rfl, Same.refl _, s1 _ _ h0, by simp, by simp⟩ (fun i σ H' hi ⟨_, _, _, _, s, _⟩ => SqL.of (s _ _ hl1)) ?_ ?_
    · rintro i x σ H2 hi ⟨fa, zs, a, rfl, s2, hfa, hm, hn⟩
      rw [List.getElem?_map] at hi
      obtain ⟨pi, hpi, rfl⟩ := Option.map_eq_some_iff.mp hi
      obtain ⟨ti, hti, htp⟩ := hps.get hpi
      have hmem : ti ∈ t.subs := List.mem_of_getElem? hti
      have hdep := Tr.subs_dep hmem
      have hfit : (t.top w ++ ((t.subs.take (i + 1)).map (Tr.told w)).flatten).length ≤ (t.told w).length := Tr.told_take w t (i + 1)
      have hsplit : ((t.subs.take (i + 1)).map (Tr.told w)).flatten = ((t.subs.take i).map (Tr.told w)).flatten ++ ti.told w := by
        rw [List.take_add_one, hti]
        simp
      rw [hsplit] at hfit
      simp only [List.length_append] at hfit hn
      walk_at "dn"
      refine ⟨pi, ti, w, rfl, hw, Tr.subs_ok ok hmem, htp.same s2, by omega, by omega, fun qa ys H3 s3 hq hs hnd hy => ?_⟩
      refine wc_list (.inr hq) fun pl hpl => ?_
      have hysl : ys.length ≤ (ti.told w).length := nodup_len _ _ hnd fun z hz => (hy z).mp hz
      have hb4 : upd H3 pl (.lst (ys.map V.str)) fa = some (.lst (zs.map V.str)) := (Same.mk hpl) _ _ (s3 _ _ hfa)
      refine wo_cat hb4 upd_same (szl (by rw [List.length_map, List.length_map]; omega)) fun pc hpc => ⟨pc, zs ++ ys, _, rfl, ((s2.trans s3).trans (Same.mk hpl)).trans (Same.mk hpc), ?_, ?_, ?_⟩
      · rw [List.map_append]; exact upd_same
      · intro z
        rw [List.mem_append, hm z, hy z, hsplit, List.mem_append, List.mem_append, List.mem_append, or_assoc]
      · rw [hsplit]
        simp only [List.length_append]
        omega
    · rintro σ H2 ⟨fa, zs, a, rfl, s2, hfa, hm, hn⟩
      have hfit : (t.top w ++ ((t.subs.take (ps.map V.ref).length).map (Tr.told w)).flatten).length ≤ (t.told w).length := Tr.told_take w t _
      have hall : ∀ z, z ∈ zs ↔ z ∈ t.told w := fun z => by
        rw [hm z, List.length_map, hlen, List.take_length, Tr.told_all]
      walk_at "dn"
      refine wc_setS (SqL.of hfa) (by omega) fun a hpa => ?_
      have hml := metS_len (l := zs.reverse)
      rw [List.length_reverse] at hml
      refine wc_sortSet upd_same (by omega) fun ys p2 hperm hsort hp2 => ?_
      refine wc_tup (SqL.of upd_same) fun p3 hp3 => ?_
      refine q p3 ys _ ((((s0.trans s1).trans s2).trans (Same.mk hpa)).trans ((Same.mk hp2).trans (Same.mk hp3))) (SqT.of upd_same) hsort (hperm.nodup_iff.mpr metS_nodup) fun z => ?_
      rw [hperm.mem_iff, metS_mem, List.mem_reverse, hall z]
  refine wx_t hx (v := .str t.word) (atG (j := 0) rfl rfl) ?_
  walk_at "di"
  refine br_d (fun h => ?_) (fun h => ?_)
  · obtain ⟨k, hk, htop⟩ := Tr.top_hit hw ok hp h
    obtain ⟨xs, hxs, hk1⟩ := hk
    refine wx_t hxs (v := .str k) (atG (j := 1) rfl hk1) ?_
    exact ⟨szl (by simp only [List.length_cons, List.length_nil]; omega), fun f0 hf0 => main _ f0 (Same.mk hf0) (by rw [htop]; exact upd_same)⟩
  · exact ⟨szl (by simp only [List.length_nil]; omega), fun f0 hf0 => main _ f0 (Same.mk hf0) (by rw [Tr.top_miss hw ok h]; exact upd_same)⟩
abbrev s_steps_in : Stmt := topS 15
abbrev n_steps_in : List Str := ["tree", "part"]
theorem sc_steps_in : FnScope n_steps_in ["tree"] (defScope s_steps_in) := ⟨rfl, rfl, rfl, by decide +kernel, rfl, by decide +kernel, by decide +kernel⟩
theorem nm_steps_in : nvB n_steps_in (defScope s_steps_in) 0 "tree" = true ∧ gvB (defScope s_steps_in) "parts_of" = true ∧ gvB (defScope s_steps_in) "sum" = true := by decide +kernel
theorem cl_steps_in {Γ : Gm} (dfn : Dfn Γ "steps_in" s_steps_in ["tree"]) (T : Names Γ) {d : Nat} (c_steps_in : Cl Γ CX0 (d + 1) "steps_in" (spSteps Γ.K d) []) (c_parts_of : Cl Γ CX0 1 "parts_of" (spParts Γ.K) []) : Cl Γ CX0 (d + 2) "steps_in" (spSteps Γ.K (d + 1)) [] := by
  refine dfn.cl sc_steps_in (fun vs H Q E h => ?_) (fun f cdv A outer s H vs Q E hg h => ?_)
  · obtain ⟨i, t, rfl, _⟩ := h
    rfl
  obtain ⟨p, t, rfl, ok, hp, hd, q⟩ := h
  have nd := sc_steps_in.nd
  obtain ⟨v0, g_parts_of, g_sum⟩ := nm_steps_in
  refine ⟨_, (pss_cons (ps_ifB (pt_cm (k_eq hg) (pe_ix (WX.ok hg) (ps 0 v0) pe_int (fun _ _ => rfl)) pe_str (nomark _))
    (pss_one (ps_ret pe_int))
    pss_nil)
    (pss_one (ps_ret (pcb (WC.ok hg) g_sum T.n_sum bt_sum (pa_cons (pe_lc (own := [("part", 1)]) rfl nd (pi_l hg (pcl c_parts_of hg (by omega) g_parts_of pass0 (pa_cons (ps 0 v0) pa_nil))) (blkOk_by (N := n_steps_in) (sc := defScope s_steps_in) (by decide +kernel)) (fun _ _ _ _ _ => (pg_name (i := 1) nd rfl (by first | exact .inl rfl | exact .inr rfl))) (fun _ _ _ _ _ => pts_nil) (fun _ _ _ _ _ => (pcl c_steps_in hg.blk (by omega) (by rfl) pass0 (pa_cons (psr 1) pa_nil)))) pa_nil))))), ?_⟩
  refine st_start (σ := [some _, none]) rfl ?_
  walk_at "dn"
  obtain ⟨r, hx, hr, hr5⟩ := hp.rest
  refine wx_t hx (v := .str t.word) (atG (j := 0) rfl rfl) ?_
  walk_at "di"
  refine br_d (fun h => ?_) (fun h => ?_)
  · rw [← Tr.steps_step ok h]
    exact q H (Same.refl _)
  · refine ⟨p, t, rfl, hp, fun l ps H1 hl s1 hl1 hps => ⟨l, rfl, ⟨_, SqL.of hl1⟩, fun D hD => ?_⟩⟩
    have hlen : ps.length = t.subs.length := hps.len
    have h2 : ps.length ≤ 2 := by rw [hlen]; cases t <;> simp [Tr.subs]
    have s0 : SS (E := E1 Γ) H1 [] H1 [] [lstR l (ps.map V.ref) true] := SS.ro1 hl1 (fun z => z)
    refine lq_it walk_list (fun i acc H' => SS (E := E1 Γ) H1 [] H' [] [lstR D acc, lstR l (ps.map V.ref) true] ∧ acc = (t.subs.take i).map fun s => V.int ((Tr.steps s : Nat) : Int)) ⟨s0.newC hD (fun z => z), rfl⟩ (fun _ _ _ _ h => SqL.of (h.1.cell (.tail _ (.head _)))) ?_ ?_
    · rintro i x acc H2 H3 hi hl2 ⟨s, ha⟩ ⟨rfl, hx2⟩
      have hx3 : (ps.map V.ref)[i]? = some x := hx2
      rw [List.getElem?_map] at hx3
      obtain ⟨pi, hpi, rfl⟩ := Option.map_eq_some_iff.mp hx3
      obtain ⟨ti, hti, htp⟩ := hps.get hpi
      have hmem : ti ∈ t.subs := List.mem_of_getElem? hti
      have hdep := Tr.subs_dep hmem
      have htp2 : TrP Γ.K H3 ti pi := htp.same s.fr.same
      walk_at "dn"
      refine ⟨rfl, pi, ti, rfl, Tr.subs_ok ok hmem, htp2, by omega, fun H4 s4 => ?_⟩
      refine lq_add (s.same s4) hl2 (lt_size (by rw [List.length_map] at hi; omega)) ⟨_, lq_len hl2, (s.same s4).app, ?_⟩
      rw [List.take_add_one, hti, ha]
      simp
    · rintro acc H2 hl2 ⟨s, ha⟩
      rw [List.length_map, hlen, List.take_length] at ha
      refine wc_sum (ns := t.subs.map fun s => ((Tr.steps s : Nat) : Int)) (SqL.of (by have := s.cell (.head _); rw [ha] at this; rw [List.map_map]; exact this)) ?_
      rw [Tr.steps_sum ok h]
      exact q H2 (s1.trans s.fr.same)
def spTree (K : PySem.W.Frag) (C : Addr) : Sp := fun vs H Q _ => ∃ (a : Addr) (t : Tr), vs = [.ref a] ∧ LkP K H C t a ∧ ∀ p, TrP K H t p → Q (.ref p) H
def spTold (K : PySem.W.Frag) (C : Addr) (w : Str) (d : Nat) : Sp := fun vs H Q _ => ∃ (a : Addr) (t : Tr), vs = [.ref a] ∧ LkP K H C t a ∧ t.ok ∧ t.dep ≤ d ∧ (t.told w).length < 64 ∧
  ∀ q ys H', Same H H' → SqT K H' q (ys.map V.str) → sortedS ys = true → ys.Nodup → (∀ z, z ∈ ys ↔ z ∈ t.told w) → Q (.ref q) H'
def spStepsC (K : PySem.W.Frag) (C : Addr) (d : Nat) : Sp := fun vs H Q _ => ∃ (a : Addr) (t : Tr), vs = [.ref a] ∧ LkP K H C t a ∧ t.ok ∧ t.dep ≤ d ∧ ∀ H', Same H H' → Q (.int t.steps) H'
def spEqC (K : PySem.W.Frag) (C : Addr) : Sp := fun vs H Q _ => ∃ (a : Addr) (t : Tr) (y : V), vs = [.ref a, y] ∧ LkP K H C t a ∧ t.ok ∧ t.dep ≤ 64 ∧
  ((∃ (b : Addr) (s : Tr), y = .ref b ∧ LkP K H C s b ∧ s.ok ∧ s.dep ≤ 64 ∧ Q (.bl (decide (t = s))) H) ∨ ∃ u, TyX K H y u ∧ PySem.W.kitOne K u (.ref C) = some false ∧ Q (.bl false) H)
def spBin (K : PySem.W.Frag) (C : Addr) (w : Str) : Sp := fun vs H Q _ => ∃ (a b : Addr) (t s : Tr), vs = [.ref a, .ref b] ∧ LkP K H C t a ∧ LkP K H C s b ∧ ∀ c H', Same H H' → LkP K H' C (.two w t s) c → Q (.ref c) H'
def spUn (K : PySem.W.Frag) (C D : Addr) (w : Str) : Sp := fun vs H Q _ => ∃ (a : Addr) (t : Tr), vs = [.ref a] ∧ LkP K H C t a ∧ ∀ c H', Same H H' → LkP K H' D (.one w t) c → Q (.ref c) H'
def spNeg (K : PySem.W.Frag) (C : Addr) (d : Nat) : Sp := fun vs H Q _ => ∃ (a : Addr) (t : Tr), vs = [.ref a] ∧ LkP K H C t a ∧ t.walk ∧ t.dep ≤ d ∧ ∀ c H', Same H H' → LkP K H' C t.back c → Q (.ref c) H'
def spPow (K : PySem.W.Frag) (C : Addr) : Sp := fun vs H Q _ => ∃ (a : Addr) (t : Tr) (n : Nat), vs = [.ref a, .int n] ∧ LkP K H C t a ∧ n ≤ 9 ∧ ∀ c H', Same H H' → LkP K H' C (t.grp n) c → Q (.ref c) H'
def spWith (K : PySem.W.Frag) (C C2 D : Addr) (w : Str) : Sp := fun vs H Q _ => ∃ (a b : Addr) (t s : Tr), vs = [.ref a, .ref b] ∧ LkP K H C t a ∧ LkP K H C2 s b ∧ ∀ c H', Same H H' → LkP K H' D (.two w t s) c → Q (.ref c) H'
def spZ (K : PySem.W.Frag) (C : Addr) (w : Str) : Sp := fun vs H Q _ => vs = [] ∧ ∀ c H', Same H H' → LkP K H' C (.z w) c → Q (.ref c) H'
def spMarked (K : PySem.W.Frag) (C : Addr) : Sp := fun vs H Q _ => ∃ z, vs = [.str z] ∧ Nm z ∧ ∀ c H', Same H H' → LkP K H' C (.mk z) c → Q (.ref c) H'
def spStep (K : PySem.W.Frag) (C : Addr) : Sp := fun vs H Q _ => ∃ z, ∃ i : Int, vs = [.str z, .int i] ∧ Nm z ∧ (-9 ≤ i ∧ i ≤ 9) ∧ ∀ c H', Same H H' → LkP K H' C ((Tr.st z (if 0 < i then 1 else -1)).grp i.natAbs) c → Q (.ref c) H'
abbrev s_Ts_init : Stmt := inClass (topS 18) 0
abbrev n_Ts_init : List Str := ["self", "tree"]
theorem sc_Ts_init : FnScope n_Ts_init ["self", "tree"] (defScope s_Ts_init) := ⟨rfl, rfl, rfl, by decide +kernel, rfl, by decide +kernel, by decide +kernel⟩
theorem nm_Ts_init : nvB n_Ts_init (defScope s_Ts_init) 0 "self" = true ∧ nvB n_Ts_init (defScope s_Ts_init) 1 "tree" = true := by decide +kernel
theorem cl_Ts_init {Γ : Gm} {C : Addr} (dfn : DfM Γ C "__init__" "Test.__init__" s_Ts_init ["self", "tree"]) (T : Names Γ) (L : KF Γ "Test" C) : Mt Γ CX0 (1) C "__init__" (spInit C) [] := by
  refine dfn.mt sc_Ts_init (fun vs H Q E h => ?_) (fun f cdv A outer s H vs Q E hg h => ?_)
  · obtain ⟨x, dx, v, rfl, _⟩ := h
    rfl
  obtain ⟨x, dx, v, rfl, hx, q⟩ := h
  have nd := sc_Ts_init.nd
  obtain ⟨v0, v1⟩ := nm_Ts_init
  refine ⟨_, (pss_one (ps_fld (ps 0 v0) (ps 1 v1) rfl)), ?_⟩
  refine st_start (σ := [some _, some _]) rfl ?_
  walk_at "dn"
  exact ⟨x, C, dx, [], rfl, hx, L.k.cls, L.na, by decide, q⟩
abbrev s_Ts_tree : Stmt := inClass (topS 18) 1
abbrev n_Ts_tree : List Str := ["self"]
theorem sc_Ts_tree : FnScope n_Ts_tree ["self"] (defScope s_Ts_tree) := ⟨rfl, rfl, rfl, by decide +kernel, rfl, by decide +kernel, by decide +kernel⟩
theorem nm_Ts_tree : nvB n_Ts_tree (defScope s_Ts_tree) 0 "self" = true := by decide +kernel
theorem cl_Ts_tree {Γ : Gm} {C : Addr} (dfn : DfP Γ C "tree" "Test.tree" s_Ts_tree ["self"]) (T : Names Γ) (L : KF Γ "Test" C) : Pr Γ CX0 (1) C "tree" (spTree Γ.K C) := by
  refine dfn.pr sc_Ts_tree (fun vs H Q E h => ?_) (fun f cdv A outer s H vs Q E hg h => ?_)
  · obtain ⟨a, t, rfl, _⟩ := h
    rfl
  obtain ⟨a, t, rfl, ⟨dx, p, ha, hp⟩, q⟩ := h
  have nd := sc_Ts_tree.nd
  obtain v0 := nm_Ts_tree
  refine ⟨_, (pss_one (ps_ret (pe_at (WA.ok hg) (ps 0 v0)))), ?_⟩
  refine st_start (σ := [some _]) rfl ?_
  walk_at "dn"
  exact wa_form L ha (q p hp)
abbrev s_Ts_kinds : Stmt := inClass (topS 18) 2
abbrev n_Ts_kinds : List Str := ["self"]
theorem sc_Ts_kinds : FnScope n_Ts_kinds ["self"] (defScope s_Ts_kinds) := ⟨rfl, rfl, rfl, by decide +kernel, rfl, by decide +kernel, by decide +kernel⟩
theorem nm_Ts_kinds : nvB n_Ts_kinds (defScope s_Ts_kinds) 0 "self" = true ∧ gvB (defScope s_Ts_kinds) "names_in" = true := by decide +kernel
theorem cl_Ts_kinds {Γ : Gm} {C : Addr} (dfn : DfP Γ C "kinds" "Test.kinds" s_Ts_kinds ["self"]) (T : Names Γ) {d : Nat} (L : KF Γ "Test" C) (c_names_in : Cl Γ CX0 (d + 1) "names_in" (spNames Γ.K d) []) : Pr Γ CX0 (d + 2) C "kinds" (spTold Γ.K C "step" d) := by
  refine dfn.pr sc_Ts_kinds (fun vs H Q E h => ?_) (fun f cdv A outer s H vs Q E hg h => ?_)
  · obtain ⟨a, t, rfl, _⟩ := h
    rfl
  obtain ⟨a, t, rfl, ⟨dx, p, ha, hp⟩, ok, hd, hl, q⟩ := h
  have nd := sc_Ts_kinds.nd
  obtain ⟨v0, g_names_in⟩ := nm_Ts_kinds
  refine ⟨_, (pss_one (ps_ret (pcl c_names_in hg (by omega) g_names_in pass0 (pa_cons (pe_at (WA.ok hg) (ps 0 v0)) (pa_cons pe_str pa_nil))))), ?_⟩
  refine st_start (σ := [some _]) rfl ?_
  walk_at "dn"
  exact wa_form L ha ⟨p, t, _, rfl, by first | exact .inl rfl | exact .inr rfl, ok, hp, hd, hl, q⟩
abbrev s_Ts_marks : Stmt := inClass (topS 18) 3
abbrev n_Ts_marks : List Str := ["self"]
theorem sc_Ts_marks : FnScope n_Ts_marks ["self"] (defScope s_Ts_marks) := ⟨rfl, rfl, rfl, by decide +kernel, rfl, by decide +kernel, by decide +kernel⟩
theorem nm_Ts_marks : nvB n_Ts_marks (defScope s_Ts_marks) 0 "self" = true ∧ gvB (defScope s_Ts_marks) "names_in" = true := by decide +kernel
theorem cl_Ts_marks {Γ : Gm} {C : Addr} (dfn : DfP Γ C "marks" "Test.marks" s_Ts_marks ["self"]) (T : Names Γ) {d : Nat} (L : KF Γ "Test" C) (c_names_in : Cl Γ CX0 (d + 1) "names_in" (spNames Γ.K d) []) : Pr Γ CX0 (d + 2) C "marks" (spTold Γ.K C "marked" d) := by
  refine dfn.pr sc_Ts_marks (fun vs H Q E h => ?_) (fun f cdv A outer s H vs Q E hg h => ?_)
  · obtain ⟨a, t, rfl, _⟩ := h
    rfl
  obtain ⟨a, t, rfl, ⟨dx, p, ha, hp⟩, ok, hd, hl, q⟩ := h
  have nd := sc_Ts_marks.nd
  obtain ⟨v0, g_names_in⟩ := nm_Ts_marks
  refine ⟨_, (pss_one (ps_ret (pcl c_names_in hg (by omega) g_names_in pass0 (pa_cons (pe_at (WA.ok hg) (ps 0 v0)) (pa_cons pe_str pa_nil))))), ?_⟩
  refine st_start (σ := [some _]) rfl ?_
  walk_at "dn"
  exact wa_form L ha ⟨p, t, _, rfl, by first | exact .inl rfl | exact .inr rfl, ok, hp, hd, hl, q⟩
abbrev s_Ts_steps : Stmt := inClass (topS 18) 4
abbrev n_Ts_steps : List Str := ["self"]
theorem sc_Ts_steps : FnScope n_Ts_steps ["self"] (defScope s_Ts_steps) := ⟨rfl, rfl, rfl, by decide +kernel, rfl, by decide +kernel, by decide +kernel⟩
theorem nm_Ts_steps : nvB n_Ts_steps (defScope s_Ts_steps) 0 "self" = true ∧ gvB (defScope s_Ts_steps) "steps_in" = true := by decide +kernel
theorem cl_Ts_steps {Γ : Gm} {C : Addr} (dfn : DfP Γ C "steps" "Test.steps" s_Ts_steps ["self"]) (T : Names Γ) {d : Nat} (L : KF Γ "Test" C) (c_steps_in : Cl Γ CX0 (d + 1) "steps_in" (spSteps Γ.K d) []) : Pr Γ CX0 (d + 2) C "steps" (spStepsC Γ.K C d) := by
  refine dfn.pr sc_Ts_steps (fun vs H Q E h => ?_) (fun f cdv A outer s H vs Q E hg h => ?_)
  · obtain ⟨a, t, rfl, _⟩ := h
    rfl
  obtain ⟨a, t, rfl, ⟨dx, p, ha, hp⟩, ok, hd, q⟩ := h
  have nd := sc_Ts_steps.nd
  obtain ⟨v0, g_steps_in⟩ := nm_Ts_steps
  refine ⟨_, (pss_one (ps_ret (pcl c_steps_in hg (by omega) g_steps_in pass0 (pa_cons (pe_at (WA.ok hg) (ps 0 v0)) pa_nil)))), ?_⟩
  refine st_start (σ := [some _]) rfl ?_
  walk_at "dn"
  exact wa_form L ha ⟨p, t, rfl, ok, hp, hd, q⟩
abbrev s_Ts_eq : Stmt := inClass (topS 18) 6
abbrev n_Ts_eq : List Str := ["self", "other"]
theorem sc_Ts_eq : FnScope n_Ts_eq ["self", "other"] (defScope s_Ts_eq) := ⟨rfl, rfl, rfl, by decide +kernel, rfl, by decide +kernel, by decide +kernel⟩
theorem nm_Ts_eq : nvB n_Ts_eq (defScope s_Ts_eq) 0 "self" = true ∧ nvB n_Ts_eq (defScope s_Ts_eq) 1 "other" = true ∧ gvB (defScope s_Ts_eq) "Test" = true ∧ gvB (defScope s_Ts_eq) "isinstance" = true := by decide +kernel
theorem cl_Ts_eq {Γ : Gm} {C : Addr} (dfn : DfM Γ C "__eq__" "Test.__eq__" s_Ts_eq ["self", "other"]) (T : Names Γ) (L : KF Γ "Test" C) : Mt Γ CX0 (1) C "__eq__" (spEqC Γ.K C) [] := by
  refine dfn.mt sc_Ts_eq (fun vs H Q E h => ?_) (fun f cdv A outer s H vs Q E hg h => ?_)
  · obtain ⟨a, t, y, rfl, _⟩ := h
    rfl
  obtain ⟨a, t, y, rfl, ⟨dx, p, ha, hp⟩, ot, dt, h⟩ := h
  have gc_Test := L.gc
  have nd := sc_Ts_eq.nd
  obtain ⟨v0, v1, g_Test, g_isinstance⟩ := nm_Ts_eq
  refine ⟨_, (pss_one (ps_ret (pe_and2 hg (pcb (WC.ok hg) g_isinstance T.n_isinstance bt_isinstance (pa_cons (ps 1 v1) (pa_cons (C8.pe_gc (gv_of g_Test).1 gc_Test) pa_nil))) (pe_one (pe_cmpR (k_eq hg) (pe_at (WA.ok hg) (ps 0 v0)) (pe_at (WA.ok hg) (ps 1 v1)) (nomark _)))))), ?_⟩
  refine st_start (σ := [some _, some _]) rfl ?_
  walk_at "dn"
  rcases h with ⟨b, s, rfl, ⟨dy, r, hb, hr⟩, os, ds, q⟩ | ⟨u, ty, hk, q⟩
  · refine wc_isi (.own C) (L.ty hb) L.me ?_
    walk_at "di"
    exact wa_form L ha (wa_form L hb (wo_eqT hp hr ot os dt ds q))
  · refine wc_isi (.own C) ty hk ?_
    walk_at "di"
    exact q
abbrev s_Ts_and : Stmt := inClass (topS 18) 7
abbrev n_Ts_and : List Str := ["self", "other"]
theorem sc_Ts_and : FnScope n_Ts_and ["self", "other"] (defScope s_Ts_and) := ⟨rfl, rfl, rfl, by decide +kernel, rfl, by decide +kernel, by decide +kernel⟩
theorem nm_Ts_and : nvB n_Ts_and (defScope s_Ts_and) 0 "self" = true ∧ nvB n_Ts_and (defScope s_Ts_and) 1 "other" = true ∧ gvB (defScope s_Ts_and) "Test" = true ∧ gvB (defScope s_Ts_and) "isinstance" = true := by decide +kernel
theorem cl_Ts_and {Γ : Gm} {C : Addr} (dfn : DfM Γ C "__and__" "Test.__and__" s_Ts_and ["self", "other"]) (T : Names Γ) (L : KF Γ "Test" C) (k_Test : Mkr Γ CX0 1 "Test" C (spInit C) []) : Mt Γ CX0 (3) C "__and__" (spBin Γ.K C "and") [] := by
  refine dfn.mt sc_Ts_and (fun vs H Q E h => ?_) (fun f cdv A outer s H vs Q E hg h => ?_)
  · obtain ⟨a, b, t, s, rfl, _⟩ := h
    rfl
  obtain ⟨a, b, t, s, rfl, ⟨dx, p, ha, hp⟩, ⟨dy, r, hb, hr⟩, q⟩ := h
  have gc_Test := L.gc
  have nd := sc_Ts_and.nd
  obtain ⟨v0, v1, g_Test, g_isinstance⟩ := nm_Ts_and
  refine ⟨_, (pss_cons (ps_ifB (pt_not (pt_tr hg (pcb (WC.ok hg) g_isinstance T.n_isinstance bt_isinstance (pa_cons (ps 1 v1) (pa_cons (C8.pe_gc (gv_of g_Test).1 gc_Test) pa_nil)))))
    (pss_one ps_never)
    pss_nil)
    (pss_one (ps_ret (pmk k_Test hg (by omega) g_Test pass0 (pa_cons (pe_tup (pa_cons pe_str (pa_cons (pe_at (WA.ok hg) (ps 0 v0)) (pa_cons (pe_at (WA.ok hg) (ps 1 v1)) pa_nil)))) pa_nil))))), ?_⟩
  refine st_start (σ := [some _, some _]) rfl ?_
  walk_at "dn"
  refine wc_isi (.own C) (L.ty hb) L.me ?_
  walk_at "di"
  refine wa_form L ha (wa_form L hb ⟨szl (by simp only [List.length_cons, List.length_nil]; omega), fun p1 hp1 => made fun c dz H' s1 hc => ?_⟩)
  exact q c H' ((Same.mk hp1).trans s1) ⟨dz, p1, hc, p, r, SqT.of (s1 _ _ upd_same), (hp.same (Same.mk hp1)).same s1, (hr.same (Same.mk hp1)).same s1⟩
abbrev s_Ts_or : Stmt := inClass (topS 18) 8
abbrev n_Ts_or : List Str := ["self", "other"]
theorem sc_Ts_or : FnScope n_Ts_or ["self", "other"] (defScope s_Ts_or) := ⟨rfl, rfl, rfl, by decide +kernel, rfl, by decide +kernel, by decide +kernel⟩
theorem nm_Ts_or : nvB n_Ts_or (defScope s_Ts_or) 0 "self" = true ∧ nvB n_Ts_or (defScope s_Ts_or) 1 "other" = true ∧ gvB (defScope s_Ts_or) "Test" = true ∧ gvB (defScope s_Ts_or) "isinstance" = true := by decide +kernel
theorem cl_Ts_or {Γ : Gm} {C : Addr} (dfn : DfM Γ C "__or__" "Test.__or__" s_Ts_or ["self", "other"]) (T : Names Γ) (L : KF Γ "Test" C) (k_Test : Mkr Γ CX0 1 "Test" C (spInit C) []) : Mt Γ CX0 (3) C "__or__" (spBin Γ.K C "or") [] := by
  refine dfn.mt sc_Ts_or (fun vs H Q E h => ?_) (fun f cdv A outer s H vs Q E hg h => ?_)
  · obtain ⟨a, b, t, s, rfl, _⟩ := h
    rfl
  obtain ⟨a, b, t, s, rfl, ⟨dx, p, ha, hp⟩, ⟨dy, r, hb, hr⟩, q⟩ := h
  have gc_Test := L.gc
  have nd := sc_Ts_or.nd
  obtain ⟨v0, v1, g_Test, g_isinstance⟩ := nm_Ts_or
  refine ⟨_, (pss_cons (ps_ifB (pt_not (pt_tr hg (pcb (WC.ok hg) g_isinstance T.n_isinstance bt_isinstance (pa_cons (ps 1 v1) (pa_cons (C8.pe_gc (gv_of g_Test).1 gc_Test) pa_nil)))))
    (pss_one ps_never)
    pss_nil)
    (pss_one (ps_ret (pmk k_Test hg (by omega) g_Test pass0 (pa_cons (pe_tup (pa_cons pe_str (pa_cons (pe_at (WA.ok hg) (ps 0 v0)) (pa_cons (pe_at (WA.ok hg) (ps 1 v1)) pa_nil)))) pa_nil))))), ?_⟩
  refine st_start (σ := [some _, some _]) rfl ?_
  walk_at "dn"
  refine wc_isi (.own C) (L.ty hb) L.me ?_
  walk_at "di"
  refine wa_form L ha (wa_form L hb ⟨szl (by simp only [List.length_cons, List.length_nil]; omega), fun p1 hp1 => made fun c dz H' s1 hc => ?_⟩)
  exact q c H' ((Same.mk hp1).trans s1) ⟨dz, p1, hc, p, r, SqT.of (s1 _ _ upd_same), (hp.same (Same.mk hp1)).same s1, (hr.same (Same.mk hp1)).same s1⟩
abbrev s_Ts_xor : Stmt := inClass (topS 18) 9
abbrev n_Ts_xor : List Str := ["self", "other"]
theorem sc_Ts_xor : FnScope n_Ts_xor ["self", "other"] (defScope s_Ts_xor) := ⟨rfl, rfl, rfl, by decide +kernel, rfl, by decide +kernel, by decide +kernel⟩
theorem nm_Ts_xor : nvB n_Ts_xor (defScope s_Ts_xor) 0 "self" = true ∧ nvB n_Ts_xor (defScope s_Ts_xor) 1 "other" = true ∧ gvB (defScope s_Ts_xor) "Test" = true ∧ gvB (defScope s_Ts_xor) "isinstance" = true := by decide +kernel
theorem cl_Ts_xor {Γ : Gm} {C : Addr} (dfn : DfM Γ C "__xor__" "Test.__xor__" s_Ts_xor ["self", "other"]) (T : Names Γ) (L : KF Γ "Test" C) (k_Test : Mkr Γ CX0 1 "Test" C (spInit C) []) : Mt Γ CX0 (3) C "__xor__" (spBin Γ.K C "xor") [] := by
  refine dfn.mt sc_Ts_xor (fun vs H Q E h => ?_) (fun f cdv A outer s H vs Q E hg h => ?_)
  · obtain ⟨a, b, t, s, rfl, _⟩ := h
    rfl
  obtain ⟨a, b, t, s, rfl, ⟨dx, p, ha, hp⟩, ⟨dy, r, hb, hr⟩, q⟩ := h
  have gc_Test := L.gc
  have nd := sc_Ts_xor.nd
  obtain ⟨v0, v1, g_Test, g_isinstance⟩ := nm_Ts_xor
  refine ⟨_, (pss_cons (ps_ifB (pt_not (pt_tr hg (pcb (WC.ok hg) g_isinstance T.n_isinstance bt_isinstance (pa_cons (ps 1 v1) (pa_cons (C8.pe_gc (gv_of g_Test).1 gc_Test) pa_nil)))))
    (pss_one ps_never)
    pss_nil)
    (pss_one (ps_ret (pmk k_Test hg (by omega) g_Test pass0 (pa_cons (pe_tup (pa_cons pe_str (pa_cons (pe_at (WA.ok hg) (ps 0 v0)) (pa_cons (pe_at (WA.ok hg) (ps 1 v1)) pa_nil)))) pa_nil))))), ?_⟩
  refine st_start (σ := [some _, some _]) rfl ?_
  walk_at "dn"
  refine wc_isi (.own C) (L.ty hb) L.me ?_
  walk_at "di"
  refine wa_form L ha (wa_form L hb ⟨szl (by simp only [List.length_cons, List.length_nil]; omega), fun p1 hp1 => made fun c dz H' s1 hc => ?_⟩)
  exact q c H' ((Same.mk hp1).trans s1) ⟨dz, p1, hc, p, r, SqT.of (s1 _ _ upd_same), (hp.same (Same.mk hp1)).same s1, (hr.same (Same.mk hp1)).same s1⟩
abbrev s_Ts_not : Stmt := inClass (topS 18) 10
abbrev n_Ts_not : List Str := ["self"]
theorem sc_Ts_not : FnScope n_Ts_not ["self"] (defScope s_Ts_not) := ⟨rfl, rfl, rfl, by decide +kernel, rfl, by decide +kernel, by decide +kernel⟩
theorem nm_Ts_not : nvB n_Ts_not (defScope s_Ts_not) 0 "self" = true ∧ gvB (defScope s_Ts_not) "Test" = true := by decide +kernel
theorem cl_Ts_not {Γ : Gm} {C : Addr} (dfn : DfM Γ C "__invert__" "Test.__invert__" s_Ts_not ["self"]) (T : Names Γ) (L : KF Γ "Test" C) (k_Test : Mkr Γ CX0 1 "Test" C (spInit C) []) : Mt Γ CX0 (3) C "__invert__" (spUn Γ.K C C "not") [] := by
  refine dfn.mt sc_Ts_not (fun vs H Q E h => ?_) (fun f cdv A outer s H vs Q E hg h => ?_)
  · obtain ⟨a, t, rfl, _⟩ := h
    rfl
  obtain ⟨a, t, rfl, ⟨dx, p, ha, hp⟩, q⟩ := h
  have gc_Test := L.gc
  have nd := sc_Ts_not.nd
  obtain ⟨v0, g_Test⟩ := nm_Ts_not
  refine ⟨_, (pss_one (ps_ret (pmk k_Test hg (by omega) g_Test pass0 (pa_cons (pe_tup (pa_cons pe_str (pa_cons (pe_at (WA.ok hg) (ps 0 v0)) pa_nil))) pa_nil)))), ?_⟩
  refine st_start (σ := [some _]) rfl ?_
  walk_at "dn"
  refine wa_form L ha ⟨szl (by simp only [List.length_cons, List.length_nil]; omega), fun p1 hp1 => made fun c dz H' s1 hc => ?_⟩
  exact q c H' ((Same.mk hp1).trans s1) ⟨dz, p1, hc, p, SqT.of (s1 _ _ upd_same), (hp.same (Same.mk hp1)).same s1⟩
abbrev s_Lk_init : Stmt := inClass (topS 19) 0
abbrev n_Lk_init : List Str := ["self", "tree"]
theorem sc_Lk_init : FnScope n_Lk_init ["self", "tree"] (defScope s_Lk_init) := ⟨rfl, rfl, rfl, by decide +kernel, rfl, by decide +kernel, by decide +kernel⟩
theorem nm_Lk_init : nvB n_Lk_init (defScope s_Lk_init) 0 "self" = true ∧ nvB n_Lk_init (defScope s_Lk_init) 1 "tree" = true := by decide +kernel
theorem cl_Lk_init {Γ : Gm} {C : Addr} (dfn : DfM Γ C "__init__" "Look.__init__" s_Lk_init ["self", "tree"]) (T : Names Γ) (L : KF Γ "Look" C) : Mt Γ CX0 (1) C "__init__" (spInit C) [] := by
  refine dfn.mt sc_Lk_init (fun vs H Q E h => ?_) (fun f cdv A outer s H vs Q E hg h => ?_)
  · obtain ⟨x, dx, v, rfl, _⟩ := h
    rfl
  obtain ⟨x, dx, v, rfl, hx, q⟩ := h
  have nd := sc_Lk_init.nd
  obtain ⟨v0, v1⟩ := nm_Lk_init
  refine ⟨_, (pss_one (ps_fld (ps 0 v0) (ps 1 v1) rfl)), ?_⟩
  refine st_start (σ := [some _, some _]) rfl ?_
  walk_at "dn"
  exact ⟨x, C, dx, [], rfl, hx, L.k.cls, L.na, by decide, q⟩
abbrev s_Lk_tree : Stmt := inClass (topS 19) 1
abbrev n_Lk_tree : List Str := ["self"]
theorem sc_Lk_tree : FnScope n_Lk_tree ["self"] (defScope s_Lk_tree) := ⟨rfl, rfl, rfl, by decide +kernel, rfl, by decide +kernel, by decide +kernel⟩
theorem nm_Lk_tree : nvB n_Lk_tree (defScope s_Lk_tree) 0 "self" = true := by decide +kernel
theorem cl_Lk_tree {Γ : Gm} {C : Addr} (dfn : DfP Γ C "tree" "Look.tree" s_Lk_tree ["self"]) (T : Names Γ) (L : KF Γ "Look" C) : Pr Γ CX0 (1) C "tree" (spTree Γ.K C) := by
  refine dfn.pr sc_Lk_tree (fun vs H Q E h => ?_) (fun f cdv A outer s H vs Q E hg h => ?_)
  · obtain ⟨a, t, rfl, _⟩ := h
    rfl
  obtain ⟨a, t, rfl, ⟨dx, p, ha, hp⟩, q⟩ := h
  have nd := sc_Lk_tree.nd
  obtain v0 := nm_Lk_tree
  refine ⟨_, (pss_one (ps_ret (pe_at (WA.ok hg) (ps 0 v0)))), ?_⟩
  refine st_start (σ := [some _]) rfl ?_
  walk_at "dn"
  exact wa_form L ha (q p hp)
abbrev s_Lk_kinds : Stmt := inClass (topS 19) 2
abbrev n_Lk_kinds : List Str := ["self"]
theorem sc_Lk_kinds : FnScope n_Lk_kinds ["self"] (defScope s_Lk_kinds) := ⟨rfl, rfl, rfl, by decide +kernel, rfl, by decide +kernel, by decide +kernel⟩
theorem nm_Lk_kinds : nvB n_Lk_kinds (defScope s_Lk_kinds) 0 "self" = true ∧ gvB (defScope s_Lk_kinds) "names_in" = true := by decide +kernel
theorem cl_Lk_kinds {Γ : Gm} {C : Addr} (dfn : DfP Γ C "kinds" "Look.kinds" s_Lk_kinds ["self"]) (T : Names Γ) {d : Nat} (L : KF Γ "Look" C) (c_names_in : Cl Γ CX0 (d + 1) "names_in" (spNames Γ.K d) []) : Pr Γ CX0 (d + 2) C "kinds" (spTold Γ.K C "step" d) := by
  refine dfn.pr sc_Lk_kinds (fun vs H Q E h => ?_) (fun f cdv A outer s H vs Q E hg h => ?_)
  · obtain ⟨a, t, rfl, _⟩ := h
    rfl
  obtain ⟨a, t, rfl, ⟨dx, p, ha, hp⟩, ok, hd, hl, q⟩ := h
  have nd := sc_Lk_kinds.nd
  obtain ⟨v0, g_names_in⟩ := nm_Lk_kinds
  refine ⟨_, (pss_one (ps_ret (pcl c_names_in hg (by omega) g_names_in pass0 (pa_cons (pe_at (WA.ok hg) (ps 0 v0)) (pa_cons pe_str pa_nil))))), ?_⟩
  refine st_start (σ := [some _]) rfl ?_
  walk_at "dn"
  exact wa_form L ha ⟨p, t, _, rfl, by first | exact .inl rfl | exact .inr rfl, ok, hp, hd, hl, q⟩
abbrev s_Lk_marks : Stmt := inClass (topS 19) 3
abbrev n_Lk_marks : List Str := ["self"]
theorem sc_Lk_marks : FnScope n_Lk_marks ["self"] (defScope s_Lk_marks) := ⟨rfl, rfl, rfl, by decide +kernel, rfl, by decide +kernel, by decide +kernel⟩
theorem nm_Lk_marks : nvB n_Lk_marks (defScope s_Lk_marks) 0 "self" = true ∧ gvB (defScope s_Lk_marks) "names_in" = true := by decide +kernel
theorem cl_Lk_marks {Γ : Gm} {C : Addr} (dfn : DfP Γ C "marks" "Look.marks" s_Lk_marks ["self"]) (T : Names Γ) {d : Nat} (L : KF Γ "Look" C) (c_names_in : Cl Γ CX0 (d + 1) "names_in" (spNames Γ.K d) []) : Pr Γ CX0 (d + 2) C "marks" (spTold Γ.K C "marked" d) := by
  refine dfn.pr sc_Lk_marks (fun vs H Q E h => ?_) (fun f cdv A outer s H vs Q E hg h => ?_)
  · obtain ⟨a, t, rfl, _⟩ := h
    rfl
  obtain ⟨a, t, rfl, ⟨dx, p, ha, hp⟩, ok, hd, hl, q⟩ := h
  have nd := sc_Lk_marks.nd
  obtain ⟨v0, g_names_in⟩ := nm_Lk_marks
  refine ⟨_, (pss_one (ps_ret (pcl c_names_in hg (by omega) g_names_in pass0 (pa_cons (pe_at (WA.ok hg) (ps 0 v0)) (pa_cons pe_str pa_nil))))), ?_⟩
  refine st_start (σ := [some _]) rfl ?_
  walk_at "dn"
  exact wa_form L ha ⟨p, t, _, rfl, by first | exact .inl rfl | exact .inr rfl, ok, hp, hd, hl, q⟩
abbrev s_Lk_steps : Stmt := inClass (topS 19) 4
abbrev n_Lk_steps : List Str := ["self"]
theorem sc_Lk_steps : FnScope n_Lk_steps ["self"] (defScope s_Lk_steps) := ⟨rfl, rfl, rfl, by decide +kernel, rfl, by decide +kernel, by decide +kernel⟩
theorem nm_Lk_steps : nvB n_Lk_steps (defScope s_Lk_steps) 0 "self" = true ∧ gvB (defScope s_Lk_steps) "steps_in" = true := by decide +kernel
theorem cl_Lk_steps {Γ : Gm} {C : Addr} (dfn : DfP Γ C "steps" "Look.steps" s_Lk_steps ["self"]) (T : Names Γ) {d : Nat} (L : KF Γ "Look" C) (c_steps_in : Cl Γ CX0 (d + 1) "steps_in" (spSteps Γ.K d) []) : Pr Γ CX0 (d + 2) C "steps" (spStepsC Γ.K C d) := by
  refine dfn.pr sc_Lk_steps (fun vs H Q E h => ?_) (fun f cdv A outer s H vs Q E hg h => ?_)
  · obtain ⟨a, t, rfl, _⟩ := h
    rfl
  obtain ⟨a, t, rfl, ⟨dx, p, ha, hp⟩, ok, hd, q⟩ := h
  have nd := sc_Lk_steps.nd
  obtain ⟨v0, g_steps_in⟩ := nm_Lk_steps
  refine ⟨_, (pss_one (ps_ret (pcl c_steps_in hg (by omega) g_steps_in pass0 (pa_cons (pe_at (WA.ok hg) (ps 0 v0)) pa_nil)))), ?_⟩
  refine st_start (σ := [some _]) rfl ?_
  walk_at "dn"
  exact wa_form L ha ⟨p, t, rfl, ok, hp, hd, q⟩
abbrev s_Lk_eq : Stmt := inClass (topS 19) 6
abbrev n_Lk_eq : List Str := ["self", "other"]
theorem sc_Lk_eq : FnScope n_Lk_eq ["self", "other"] (defScope s_Lk_eq) := ⟨rfl, rfl, rfl, by decide +kernel, rfl, by decide +kernel, by decide +kernel⟩
theorem nm_Lk_eq : nvB n_Lk_eq (defScope s_Lk_eq) 0 "self" = true ∧ nvB n_Lk_eq (defScope s_Lk_eq) 1 "other" = true ∧ gvB (defScope s_Lk_eq) "Look" = true ∧ gvB (defScope s_Lk_eq) "isinstance" = true := by decide +kernel
theorem cl_Lk_eq {Γ : Gm} {C : Addr} (dfn : DfM Γ C "__eq__" "Look.__eq__" s_Lk_eq ["self", "other"]) (T : Names Γ) (L : KF Γ "Look" C) : Mt Γ CX0 (1) C "__eq__" (spEqC Γ.K C) [] := by
  refine dfn.mt sc_Lk_eq (fun vs H Q E h => ?_) (fun f cdv A outer s H vs Q E hg h => ?_)
  · obtain ⟨a, t, y, rfl, _⟩ := h
    rfl
  obtain ⟨a, t, y, rfl, ⟨dx, p, ha, hp⟩, ot, dt, h⟩ := h
  have gc_Look := L.gc
  have nd := sc_Lk_eq.nd
  obtain ⟨v0, v1, g_Look, g_isinstance⟩ := nm_Lk_eq
  refine ⟨_, (pss_one (ps_ret (pe_and2 hg (pcb (WC.ok hg) g_isinstance T.n_isinstance bt_isinstance (pa_cons (ps 1 v1) (pa_cons (C8.pe_gc (gv_of g_Look).1 gc_Look) pa_nil))) (pe_one (pe_cmpR (k_eq hg) (pe_at (WA.ok hg) (ps 0 v0)) (pe_at (WA.ok hg) (ps 1 v1)) (nomark _)))))), ?_⟩
  refine st_start (σ := [some _, some _]) rfl ?_
  walk_at "dn"
  rcases h with ⟨b, s, rfl, ⟨dy, r, hb, hr⟩, os, ds, q⟩ | ⟨u, ty, hk, q⟩
  · refine wc_isi (.own C) (L.ty hb) L.me ?_
    walk_at "di"
    exact wa_form L ha (wa_form L hb (wo_eqT hp hr ot os dt ds q))
  · refine wc_isi (.own C) ty hk ?_
    walk_at "di"
    exact q
abbrev s_Lk_then : Stmt := inClass (topS 19) 7
abbrev n_Lk_then : List Str := ["self", "other"]
theorem sc_Lk_then : FnScope n_Lk_then ["self", "other"] (defScope s_Lk_then) := ⟨rfl, rfl, rfl, by decide +kernel, rfl, by decide +kernel, by decide +kernel⟩
theorem nm_Lk_then : nvB n_Lk_then (defScope s_Lk_then) 0 "self" = true ∧ nvB n_Lk_then (defScope s_Lk_then) 1 "other" = true ∧ gvB (defScope s_Lk_then) "Look" = true ∧ gvB (defScope s_Lk_then) "isinstance" = true := by decide +kernel
theorem cl_Lk_then {Γ : Gm} {C : Addr} (dfn : DfM Γ C "__rshift__" "Look.__rshift__" s_Lk_then ["self", "other"]) (T : Names Γ) (L : KF Γ "Look" C) (k_Look : Mkr Γ CX0 1 "Look" C (spInit C) []) : Mt Γ CX0 (3) C "__rshift__" (spBin Γ.K C "then") [] := by
  refine dfn.mt sc_Lk_then (fun vs H Q E h => ?_) (fun f cdv A outer s H vs Q E hg h => ?_)
  · obtain ⟨a, b, t, s, rfl, _⟩ := h
    rfl
  obtain ⟨a, b, t, s, rfl, ⟨dx, p, ha, hp⟩, ⟨dy, r, hb, hr⟩, q⟩ := h
  have gc_Look := L.gc
  have nd := sc_Lk_then.nd
  obtain ⟨v0, v1, g_Look, g_isinstance⟩ := nm_Lk_then
  refine ⟨_, (pss_cons (ps_ifB (pt_not (pt_tr hg (pcb (WC.ok hg) g_isinstance T.n_isinstance bt_isinstance (pa_cons (ps 1 v1) (pa_cons (C8.pe_gc (gv_of g_Look).1 gc_Look) pa_nil)))))
    (pss_one ps_never)
    pss_nil)
    (pss_one (ps_ret (pmk k_Look hg (by omega) g_Look pass0 (pa_cons (pe_tup (pa_cons pe_str (pa_cons (pe_at (WA.ok hg) (ps 0 v0)) (pa_cons (pe_at (WA.ok hg) (ps 1 v1)) pa_nil)))) pa_nil))))), ?_⟩
  refine st_start (σ := [some _, some _]) rfl ?_
  walk_at "dn"
  refine wc_isi (.own C) (L.ty hb) L.me ?_
  walk_at "di"
  refine wa_form L ha (wa_form L hb ⟨szl (by simp only [List.length_cons, List.length_nil]; omega), fun p1 hp1 => made fun c dz H' s1 hc => ?_⟩)
  exact q c H' ((Same.mk hp1).trans s1) ⟨dz, p1, hc, p, r, SqT.of (s1 _ _ upd_same), (hp.same (Same.mk hp1)).same s1, (hr.same (Same.mk hp1)).same s1⟩
abbrev s_Lk_or : Stmt := inClass (topS 19) 8
abbrev n_Lk_or : List Str := ["self", "other"]
theorem sc_Lk_or : FnScope n_Lk_or ["self", "other"] (defScope s_Lk_or) := ⟨rfl, rfl, rfl, by decide +kernel, rfl, by decide +kernel, by decide +kernel⟩
theorem nm_Lk_or : nvB n_Lk_or (defScope s_Lk_or) 0 "self" = true ∧ nvB n_Lk_or (defScope s_Lk_or) 1 "other" = true ∧ gvB (defScope s_Lk_or) "Look" = true ∧ gvB (defScope s_Lk_or) "isinstance" = true := by decide +kernel
theorem cl_Lk_or {Γ : Gm} {C : Addr} (dfn : DfM Γ C "__or__" "Look.__or__" s_Lk_or ["self", "other"]) (T : Names Γ) (L : KF Γ "Look" C) (k_Look : Mkr Γ CX0 1 "Look" C (spInit C) []) : Mt Γ CX0 (3) C "__or__" (spBin Γ.K C "or") [] := by
  refine dfn.mt sc_Lk_or (fun vs H Q E h => ?_) (fun f cdv A outer s H vs Q E hg h => ?_)
  · obtain ⟨a, b, t, s, rfl, _⟩ := h
    rfl
  obtain ⟨a, b, t, s, rfl, ⟨dx, p, ha, hp⟩, ⟨dy, r, hb, hr⟩, q⟩ := h
  have gc_Look := L.gc
  have nd := sc_Lk_or.nd
  obtain ⟨v0, v1, g_Look, g_isinstance⟩ := nm_Lk_or
  refine ⟨_, (pss_cons (ps_ifB (pt_not (pt_tr hg (pcb (WC.ok hg) g_isinstance T.n_isinstance bt_isinstance (pa_cons (ps 1 v1) (pa_cons (C8.pe_gc (gv_of g_Look).1 gc_Look) pa_nil)))))
    (pss_one ps_never)
    pss_nil)
    (pss_one (ps_ret (pmk k_Look hg (by omega) g_Look pass0 (pa_cons (pe_tup (pa_cons pe_str (pa_cons (pe_at (WA.ok hg) (ps 0 v0)) (pa_cons (pe_at (WA.ok hg) (ps 1 v1)) pa_nil)))) pa_nil))))), ?_⟩
  refine st_start (σ := [some _, some _]) rfl ?_
  walk_at "dn"
  refine wc_isi (.own C) (L.ty hb) L.me ?_
  walk_at "di"
  refine wa_form L ha (wa_form L hb ⟨szl (by simp only [List.length_cons, List.length_nil]; omega), fun p1 hp1 => made fun c dz H' s1 hc => ?_⟩)
  exact q c H' ((Same.mk hp1).trans s1) ⟨dz, p1, hc, p, r, SqT.of (s1 _ _ upd_same), (hp.same (Same.mk hp1)).same s1, (hr.same (Same.mk hp1)).same s1⟩
abbrev s_Lk_and : Stmt := inClass (topS 19) 9
abbrev n_Lk_and : List Str := ["self", "other"]
theorem sc_Lk_and : FnScope n_Lk_and ["self", "other"] (defScope s_Lk_and) := ⟨rfl, rfl, rfl, by decide +kernel, rfl, by decide +kernel, by decide +kernel⟩
theorem nm_Lk_and : nvB n_Lk_and (defScope s_Lk_and) 0 "self" = true ∧ nvB n_Lk_and (defScope s_Lk_and) 1 "other" = true ∧ gvB (defScope s_Lk_and) "Look" = true ∧ gvB (defScope s_Lk_and) "isinstance" = true := by decide +kernel
theorem cl_Lk_and {Γ : Gm} {C : Addr} (dfn : DfM Γ C "__and__" "Look.__and__" s_Lk_and ["self", "other"]) (T : Names Γ) (L : KF Γ "Look" C) (k_Look : Mkr Γ CX0 1 "Look" C (spInit C) []) : Mt Γ CX0 (3) C "__and__" (spBin Γ.K C "and") [] := by
  refine dfn.mt sc_Lk_and (fun vs H Q E h => ?_) (fun f cdv A outer s H vs Q E hg h => ?_)
  · obtain ⟨a, b, t, s, rfl, _⟩ := h
    rfl
  obtain ⟨a, b, t, s, rfl, ⟨dx, p, ha, hp⟩, ⟨dy, r, hb, hr⟩, q⟩ := h
  have gc_Look := L.gc
  have nd := sc_Lk_and.nd
  obtain ⟨v0, v1, g_Look, g_isinstance⟩ := nm_Lk_and
  refine ⟨_, (pss_cons (ps_ifB (pt_not (pt_tr hg (pcb (WC.ok hg) g_isinstance T.n_isinstance bt_isinstance (pa_cons (ps 1 v1) (pa_cons (C8.pe_gc (gv_of g_Look).1 gc_Look) pa_nil)))))
    (pss_one ps_never)
    pss_nil)
    (pss_one (ps_ret (pmk k_Look hg (by omega) g_Look pass0 (pa_cons (pe_tup (pa_cons pe_str (pa_cons (pe_at (WA.ok hg) (ps 0 v0)) (pa_cons (pe_at (WA.ok hg) (ps 1 v1)) pa_nil)))) pa_nil))))), ?_⟩
  refine st_start (σ := [some _, some _]) rfl ?_
  walk_at "dn"
  refine wc_isi (.own C) (L.ty hb) L.me ?_
  walk_at "di"
  refine wa_form L ha (wa_form L hb ⟨szl (by simp only [List.length_cons, List.length_nil]; omega), fun p1 hp1 => made fun c dz H' s1 hc => ?_⟩)
  exact q c H' ((Same.mk hp1).trans s1) ⟨dz, p1, hc, p, r, SqT.of (s1 _ _ upd_same), (hp.same (Same.mk hp1)).same s1, (hr.same (Same.mk hp1)).same s1⟩
abbrev s_Lk_neg : Stmt := inClass (topS 19) 10
abbrev n_Lk_neg : List Str := ["self", "tree"]
theorem sc_Lk_neg : FnScope n_Lk_neg ["self"] (defScope s_Lk_neg) := ⟨rfl, rfl, rfl, by decide +kernel, rfl, by decide +kernel, by decide +kernel⟩
theorem nm_Lk_neg : nvB n_Lk_neg (defScope s_Lk_neg) 0 "self" = true ∧ nvB n_Lk_neg (defScope s_Lk_neg) 1 "tree" = true ∧ lvB n_Lk_neg (defScope s_Lk_neg) 1 "tree" = true ∧ gvB (defScope s_Lk_neg) "Look" = true ∧ gvB (defScope s_Lk_neg) "back_of" = true := by decide +kernel
theorem cl_Lk_neg {Γ : Gm} {C : Addr} (dfn : DfM Γ C "__neg__" "Look.__neg__" s_Lk_neg ["self"]) (T : Names Γ) {d : Nat} (L : KF Γ "Look" C) (k_Look : Mkr Γ CX0 1 "Look" C (spInit C) []) (c_back_of : Cl Γ CX0 (d + 1) "back_of" (spBackOf Γ.K d) []) : Mt Γ CX0 (d + 3) C "__neg__" (spNeg Γ.K C d) [] := by
  refine dfn.mt sc_Lk_neg (fun vs H Q E h => ?_) (fun f cdv A outer s H vs Q E hg h => ?_)
  · obtain ⟨a, t, rfl, _⟩ := h
    rfl
  obtain ⟨a, t, rfl, ⟨dx, p, ha, hp⟩, hw, hd, q⟩ := h
  have gc_Look := L.gc
  have nd := sc_Lk_neg.nd
  obtain ⟨v0, v1, l1, g_Look, g_back_of⟩ := nm_Lk_neg
  refine ⟨_, (pss_cons (pst (i := 1) nd l1 (pcl c_back_of hg (by omega) g_back_of pass0 (pa_cons (pe_at (WA.ok hg) (ps 0 v0)) pa_nil)))
    (pss_cons (ps_ifB (pt_cm (k_is hg) (ps 1 v1) pe_non (nomark _))
    (pss_one ps_never)
    pss_nil)
    (pss_one (ps_ret (pmk k_Look hg (by omega) g_Look pass0 (pa_cons (ps 1 v1) pa_nil)))))), ?_⟩
  refine st_start (σ := [some _, none]) rfl ?_
  walk_at "dn"
  refine wa_form L ha ⟨p, t, rfl, hp, hw, hd, fun r H1 s1 hr => ?_⟩
  walk_at "di"
  refine made fun c dz H' s2 hc => q c H' (s1.trans s2) ⟨dz, r, hc, hr.same s2⟩
abbrev s_Lk_pow : Stmt := inClass (topS 19) 11
abbrev n_Lk_pow : List Str := ["self", "count"]
theorem sc_Lk_pow : FnScope n_Lk_pow ["self", "count"] (defScope s_Lk_pow) := ⟨rfl, rfl, rfl, by decide +kernel, rfl, by decide +kernel, by decide +kernel⟩
theorem nm_Lk_pow : nvB n_Lk_pow (defScope s_Lk_pow) 0 "self" = true ∧ nvB n_Lk_pow (defScope s_Lk_pow) 1 "count" = true ∧ gvB (defScope s_Lk_pow) "Look" = true ∧ gvB (defScope s_Lk_pow) "is_number" = true ∧ gvB (defScope s_Lk_pow) "repeated" = true := by decide +kernel
theorem cl_Lk_pow {Γ : Gm} {C : Addr} (dfn : DfM Γ C "__pow__" "Look.__pow__" s_Lk_pow ["self", "count"]) (T : Names Γ) (L : KF Γ "Look" C) (k_Look : Mkr Γ CX0 1 "Look" C (spInit C) []) (c_is_number : Cl Γ CX0 1 "is_number" spIsNum []) (c_repeated : Cl Γ CX0 1 "repeated" (spRep Γ.K) []) : Mt Γ CX0 (3) C "__pow__" (spPow Γ.K C) [] := by
  refine dfn.mt sc_Lk_pow (fun vs H Q E h => ?_) (fun f cdv A outer s H vs Q E hg h => ?_)
  · obtain ⟨a, t, n, rfl, _⟩ := h
    rfl
  obtain ⟨a, t, n, rfl, ⟨dx, p, ha, hp⟩, hn, q⟩ := h
  have gc_Look := L.gc
  have nd := sc_Lk_pow.nd
  obtain ⟨v0, v1, g_Look, g_is_number, g_repeated⟩ := nm_Lk_pow
  refine ⟨_, (pss_cons (ps_ifB (PW.pt (pw_orB (pt_not (pt_tr hg (pcl c_is_number hg (by omega) g_is_number pass0 (pa_cons (ps 1 v1) pa_nil)))) (pw_or1 (pt_not (pt_ch (k_le hg) (k_le hg) pe_int (ps 1 v1) pe_int)))))
    (pss_one ps_never)
    pss_nil)
    (pss_one (ps_ret (pmk k_Look hg (by omega) g_Look pass0 (pa_cons (pcl c_repeated hg (by omega) g_repeated pass0 (pa_cons (pe_at (WA.ok hg) (ps 0 v0)) (pa_cons (ps 1 v1) pa_nil))) pa_nil))))), ?_⟩
  refine st_start (σ := [some _, some _]) rfl ?_
  walk_at "dn"
  refine ⟨n, rfl, ?_⟩
  walk_at "di"
  refine br_t (by omega) (br_nt (by omega) ?_)
  exact wa_form L ha ⟨p, t, n, rfl, hp, hn, fun r H1 s1 hr => made fun c dz H' s2 hc => q c H' (s1.trans s2) ⟨dz, r, hc, hr.same s2⟩⟩
abbrev s_Lk_when : Stmt := inClass (topS 19) 12
abbrev n_Lk_when : List Str := ["self", "test"]
theorem sc_Lk_when : FnScope n_Lk_when ["self", "test"] (defScope s_Lk_when) := ⟨rfl, rfl, rfl, by decide +kernel, rfl, by decide +kernel, by decide +kernel⟩
theorem nm_Lk_when : nvB n_Lk_when (defScope s_Lk_when) 0 "self" = true ∧ nvB n_Lk_when (defScope s_Lk_when) 1 "test" = true ∧ gvB (defScope s_Lk_when) "Look" = true := by decide +kernel
theorem cl_Lk_when {Γ : Gm} {C : Addr} (dfn : DfM Γ C "when" "Look.when" s_Lk_when ["self", "test"]) (T : Names Γ) {CT : Addr} (L : KF Γ "Look" C) (k_Look : Mkr Γ CX0 1 "Look" C (spInit C) []) (t_tree : Pr Γ CX0 1 CT "tree" (spTree Γ.K CT)) : Mt Γ CX0 (3) C "when" (spWith Γ.K C CT C "when") [] := by
  refine dfn.mt sc_Lk_when (fun vs H Q E h => ?_) (fun f cdv A outer s H vs Q E hg h => ?_)
  · obtain ⟨a, b, t, s, rfl, _⟩ := h
    rfl
  obtain ⟨a, b, t, s, rfl, ⟨dx, p, ha, hp⟩, hb, q⟩ := h
  have gc_Look := L.gc
  have nd := sc_Lk_when.nd
  obtain ⟨v0, v1, g_Look⟩ := nm_Lk_when
  refine ⟨_, (pss_one (ps_ret (pmk k_Look hg (by omega) g_Look pass0 (pa_cons (pe_tup (pa_cons pe_str (pa_cons (pe_at (WA.ok hg) (ps 0 v0)) (pa_cons (pe_at (WA.ok hg) (ps 1 v1)) pa_nil)))) pa_nil)))), ?_⟩
  refine st_start (σ := [some _, some _]) rfl ?_
  walk_at "dn"
  refine wa_form L ha ?_
  obtain ⟨dy, r, hb1, hr⟩ := id hb
  refine wa_prop t_tree (by omega) hb1 (E := E0) ⟨b, s, rfl, hb, fun r2 hr2 => ?_⟩
  refine ⟨szl (by simp only [List.length_cons, List.length_nil]; omega), fun p1 hp1 => made fun c dz H' s1 hc => ?_⟩
  exact q c H' ((Same.mk hp1).trans s1) ⟨dz, p1, hc, p, r2, SqT.of (s1 _ _ upd_same), (hp.same (Same.mk hp1)).same s1, (hr2.same (Same.mk hp1)).same s1⟩
abbrev s_Lk_found : Stmt := inClass (topS 19) 13
abbrev n_Lk_found : List Str := ["self"]
theorem sc_Lk_found : FnScope n_Lk_found ["self"] (defScope s_Lk_found) := ⟨rfl, rfl, rfl, by decide +kernel, rfl, by decide +kernel, by decide +kernel⟩
theorem nm_Lk_found : nvB n_Lk_found (defScope s_Lk_found) 0 "self" = true ∧ gvB (defScope s_Lk_found) "Test" = true := by decide +kernel
theorem cl_Lk_found {Γ : Gm} {C : Addr} (dfn : DfM Γ C "found" "Look.found" s_Lk_found ["self"]) (T : Names Γ) {CT : Addr} (L : KF Γ "Look" C) (k_Test : Mkr Γ CX0 1 "Test" CT (spInit CT) []) : Mt Γ CX0 (3) C "found" (spUn Γ.K C CT "found") [] := by
  refine dfn.mt sc_Lk_found (fun vs H Q E h => ?_) (fun f cdv A outer s H vs Q E hg h => ?_)
  · obtain ⟨a, t, rfl, _⟩ := h
    rfl
  obtain ⟨a, t, rfl, ⟨dx, p, ha, hp⟩, q⟩ := h
  have nd := sc_Lk_found.nd
  obtain ⟨v0, g_Test⟩ := nm_Lk_found
  refine ⟨_, (pss_one (ps_ret (pmk k_Test hg (by omega) g_Test pass0 (pa_cons (pe_tup (pa_cons pe_str (pa_cons (pe_at (WA.ok hg) (ps 0 v0)) pa_nil))) pa_nil)))), ?_⟩
  refine st_start (σ := [some _]) rfl ?_
  walk_at "dn"
  refine wa_form L ha ⟨szl (by simp only [List.length_cons, List.length_nil]; omega), fun p1 hp1 => made fun c dz H' s1 hc => ?_⟩
  exact q c H' ((Same.mk hp1).trans s1) ⟨dz, p1, hc, p, SqT.of (s1 _ _ upd_same), (hp.same (Same.mk hp1)).same s1⟩
abbrev s_Lk_same : Stmt := inClass (topS 19) 14
abbrev n_Lk_same : List Str := ["self", "other"]
theorem sc_Lk_same : FnScope n_Lk_same ["self", "other"] (defScope s_Lk_same) := ⟨rfl, rfl, rfl, by decide +kernel, rfl, by decide +kernel, by decide +kernel⟩
theorem nm_Lk_same : nvB n_Lk_same (defScope s_Lk_same) 0 "self" = true ∧ nvB n_Lk_same (defScope s_Lk_same) 1 "other" = true ∧ gvB (defScope s_Lk_same) "Test" = true := by decide +kernel
theorem cl_Lk_same {Γ : Gm} {C : Addr} (dfn : DfM Γ C "same" "Look.same" s_Lk_same ["self", "other"]) (T : Names Γ) {CT : Addr} (L : KF Γ "Look" C) (k_Test : Mkr Γ CX0 1 "Test" CT (spInit CT) []) (t_tree : Pr Γ CX0 1 C "tree" (spTree Γ.K C)) : Mt Γ CX0 (3) C "same" (spWith Γ.K C C CT "same") [] := by
  refine dfn.mt sc_Lk_same (fun vs H Q E h => ?_) (fun f cdv A outer s H vs Q E hg h => ?_)
  · obtain ⟨a, b, t, s, rfl, _⟩ := h
    rfl
  obtain ⟨a, b, t, s, rfl, ⟨dx, p, ha, hp⟩, hb, q⟩ := h
  have nd := sc_Lk_same.nd
  obtain ⟨v0, v1, g_Test⟩ := nm_Lk_same
  refine ⟨_, (pss_one (ps_ret (pmk k_Test hg (by omega) g_Test pass0 (pa_cons (pe_tup (pa_cons pe_str (pa_cons (pe_at (WA.ok hg) (ps 0 v0)) (pa_cons (pe_at (WA.ok hg) (ps 1 v1)) pa_nil)))) pa_nil)))), ?_⟩
  refine st_start (σ := [some _, some _]) rfl ?_
  walk_at "dn"
  refine wa_form L ha ?_
  obtain ⟨dy, r, hb1, hr⟩ := id hb
  refine wa_prop t_tree (by omega) hb1 (E := E0) ⟨b, s, rfl, hb, fun r2 hr2 => ?_⟩
  refine ⟨szl (by simp only [List.length_cons, List.length_nil]; omega), fun p1 hp1 => made fun c dz H' s1 hc => ?_⟩
  exact q c H' ((Same.mk hp1).trans s1) ⟨dz, p1, hc, p, r2, SqT.of (s1 _ _ upd_same), (hp.same (Same.mk hp1)).same s1, (hr2.same (Same.mk hp1)).same s1⟩
abbrev s_here : Stmt := topS 20
abbrev n_here : List Str := []
theorem sc_here : FnScope n_here [] (defScope s_here) := ⟨rfl, rfl, rfl, by decide +kernel, rfl, by decide +kernel, by decide +kernel⟩
theorem nm_here : gvB (defScope s_here) "Look" = true := by decide +kernel
theorem cl_here {Γ : Gm} (dfn : Dfn Γ "here" s_here []) (T : Names Γ) {C : Addr} (k_Look : Mkr Γ CX0 1 "Look" C (spInit C) []) : Cl Γ CX0 (3) "here" (spZ Γ.K C "here") [] := by
  refine dfn.cl sc_here (fun vs H Q E h => ?_) (fun f cdv A outer s H vs Q E hg h => ?_)
  · obtain ⟨rfl, _⟩ := h
    rfl
  obtain ⟨rfl, q⟩ := h
  have nd := sc_here.nd
  obtain g_Look := nm_here
  refine ⟨_, (pss_one (ps_ret (pmk k_Look hg (by omega) g_Look pass0 (pa_cons (pe_tup (pa_cons pe_str pa_nil)) pa_nil)))), ?_⟩
  refine st_start (σ := []) rfl ?_
  walk_at "dn"
  refine ⟨szl (by simp only [List.length_cons, List.length_nil]; omega), fun p1 hp1 => made fun c dz H' s1 hc => ?_⟩
  exact q c H' ((Same.mk hp1).trans s1) ⟨dz, p1, hc, SqT.of (s1 _ _ upd_same)⟩
abbrev s_always : Stmt := topS 22
abbrev n_always : List Str := []
theorem sc_always : FnScope n_always [] (defScope s_always) := ⟨rfl, rfl, rfl, by decide +kernel, rfl, by decide +kernel, by decide +kernel⟩
theorem nm_always : gvB (defScope s_always) "Test" = true := by decide +kernel
theorem cl_always {Γ : Gm} (dfn : Dfn Γ "always" s_always []) (T : Names Γ) {C : Addr} (k_Test : Mkr Γ CX0 1 "Test" C (spInit C) []) : Cl Γ CX0 (3) "always" (spZ Γ.K C "always") [] := by
  refine dfn.cl sc_always (fun vs H Q E h => ?_) (fun f cdv A outer s H vs Q E hg h => ?_)
  · obtain ⟨rfl, _⟩ := h
    rfl
  obtain ⟨rfl, q⟩ := h
  have nd := sc_always.nd
  obtain g_Test := nm_always
  refine ⟨_, (pss_one (ps_ret (pmk k_Test hg (by omega) g_Test pass0 (pa_cons (pe_tup (pa_cons pe_str pa_nil)) pa_nil)))), ?_⟩
  refine st_start (σ := []) rfl ?_
  walk_at "dn"
  refine ⟨szl (by simp only [List.length_cons, List.length_nil]; omega), fun p1 hp1 => made fun c dz H' s1 hc => ?_⟩
  exact q c H' ((Same.mk hp1).trans s1) ⟨dz, p1, hc, SqT.of (s1 _ _ upd_same)⟩
abbrev s_marked : Stmt := topS 23
abbrev n_marked : List Str := ["name"]
theorem sc_marked : FnScope n_marked ["name"] (defScope s_marked) := ⟨rfl, rfl, rfl, by decide +kernel, rfl, by decide +kernel, by decide +kernel⟩
theorem nm_marked : nvB n_marked (defScope s_marked) 0 "name" = true ∧ gvB (defScope s_marked) "Test" = true ∧ gvB (defScope s_marked) "is_name" = true := by decide +kernel
theorem cl_marked {Γ : Gm} (dfn : Dfn Γ "marked" s_marked ["name"]) (T : Names Γ) {C : Addr} (k_Test : Mkr Γ CX0 1 "Test" C (spInit C) []) (c_is_name : Cl Γ CX0 1 "is_name" spIsName []) : Cl Γ CX0 (3) "marked" (spMarked Γ.K C) [] := by
  refine dfn.cl sc_marked (fun vs H Q E h => ?_) (fun f cdv A outer s H vs Q E hg h => ?_)
  · obtain ⟨z, rfl, _⟩ := h
    rfl
  obtain ⟨z, rfl, hz, q⟩ := h
  have nd := sc_marked.nd
  obtain ⟨v0, g_Test, g_is_name⟩ := nm_marked
  refine ⟨_, (pss_cons (ps_ifB (pt_not (pt_tr hg (pcl c_is_name hg (by omega) g_is_name pass0 (pa_cons (ps 0 v0) pa_nil))))
    (pss_one ps_never)
    pss_nil)
    (pss_one (ps_ret (pmk k_Test hg (by omega) g_Test pass0 (pa_cons (pe_tup (pa_cons pe_str (pa_cons (ps 0 v0) pa_nil))) pa_nil))))), ?_⟩
  refine st_start (σ := [some _]) rfl ?_
  walk_at "dn"
  refine ⟨z, rfl, hz, fun H1 s1 => ?_⟩
  walk_at "di"
  refine ⟨szl (by simp only [List.length_cons, List.length_nil]; omega), fun p1 hp1 => made fun c dz H' s2 hc => ?_⟩
  exact q c H' ((s1.trans (Same.mk hp1)).trans s2) ⟨dz, p1, hc, SqT.of (s2 _ _ upd_same)⟩
abbrev s_step : Stmt := topS 21
abbrev n_step : List Str := ["kind", "by"]
theorem sc_step : FnScope n_step ["kind", "by"] (defScope s_step) := ⟨rfl, rfl, rfl, by decide +kernel, rfl, by decide +kernel, by decide +kernel⟩
theorem nm_step : nvB n_step (defScope s_step) 0 "kind" = true ∧ nvB n_step (defScope s_step) 1 "by" = true ∧ gvB (defScope s_step) "Look" = true ∧ gvB (defScope s_step) "abs" = true ∧ gvB (defScope s_step) "is_name" = true ∧ gvB (defScope s_step) "is_number" = true ∧ gvB (defScope s_step) "repeated" = true := by decide +kernel
theorem cl_step {Γ : Gm} (dfn : DfD Γ "step" s_step ["kind", "by"] [.int 1]) (T : Names Γ) {C : Addr} (k_Look : Mkr Γ CX0 1 "Look" C (spInit C) []) (c_is_name : Cl Γ CX0 1 "is_name" spIsName []) (c_is_number : Cl Γ CX0 1 "is_number" spIsNum []) (c_repeated : Cl Γ CX0 1 "repeated" (spRep Γ.K) []) : ClD Γ CX0 (3) "step" (spStep Γ.K C) ["kind", "by"] [.int 1] := by
  refine dfn.cl sc_step (fun vs H Q E h => ?_) (fun f cdv A outer s H vs Q E hg h => ?_)
  · obtain ⟨z, i, rfl, _⟩ := h
    rfl
  obtain ⟨z, i, rfl, hz, hi, q⟩ := h
  have nd := sc_step.nd
  obtain ⟨v0, v1, g_Look, g_abs, g_is_name, g_is_number, g_repeated⟩ := nm_step
  refine ⟨_, (pss_cons (ps_ifB (pt_not (pt_tr hg (pcl c_is_name hg (by omega) g_is_name pass0 (pa_cons (ps 0 v0) pa_nil))))
    (pss_one ps_never)
    pss_nil)
    (pss_cons (ps_ifB (PW.pt (pw_orB (pt_not (pt_tr hg (pcl c_is_number hg (by omega) g_is_number pass0 (pa_cons (ps 1 v1) pa_nil)))) (pw_or1 (pt_not (pt_ch (k_le hg) (k_le hg) (pe_un (k_neg hg) pe_int) (ps 1 v1) pe_int)))))
    (pss_one ps_never)
    pss_nil)
    (pss_one (ps_ret (pmk k_Look hg (by omega) g_Look pass0 (pa_cons (pcl c_repeated hg (by omega) g_repeated pass0 (pa_cons (pe_tup (pa_cons pe_str (pa_cons (ps 0 v0) (pa_cons (pe_ifB (pt_cm (k_gt hg) (ps 1 v1) pe_int (nomark _)) pe_int (pe_un (k_neg hg) pe_int)) pa_nil)))) (pa_cons (pcb (k_abs hg) g_abs T.n_abs bt_abs (pa_cons (ps 1 v1) pa_nil)) pa_nil))) pa_nil)))))), ?_⟩
  refine st_start (σ := [some _, some _]) rfl ?_
  walk_at "dn"
  refine ⟨z, rfl, hz, fun H1 s1 => ?_⟩
  walk_at "di"
  refine ⟨i, rfl, ?_⟩
  walk_at "di"
  have hab : (if i < 0 then -i else i) = (i.natAbs : Int) := by split <;> omega
  refine br_t hi.1 (br_nt hi.2 (br_d (fun h => ?_) (fun h => ?_)))
  · rw [if_pos h] at q
    refine ⟨szl (by simp only [List.length_cons, List.length_nil]; omega), fun p1 hp1 => ⟨p1, .st z 1, i.natAbs, by rw [hab], SqT.of upd_same, by omega, fun r H2 s2 hr => made fun c dz H' s3 hc => ?_⟩⟩
    exact q c H' (((s1.trans (Same.mk hp1)).trans s2).trans s3) ⟨dz, r, hc, hr.same s3⟩
  · rw [if_neg h] at q
    refine ⟨szl (by simp only [List.length_cons, List.length_nil]; omega), fun p1 hp1 => ⟨p1, .st z (-1), i.natAbs, by rw [hab], SqT.of upd_same, by omega, fun r H2 s2 hr => made fun c dz H' s3 hc => ?_⟩⟩
    exact q c H' (((s1.trans (Same.mk hp1)).trans s2).trans s3) ⟨dz, r, hc, hr.same s3⟩
/-- draws end in a tree at p -/
def Ends5 (K : PySem.W.Frag) (b : Addr) (n : Nat) (H : Hp) (Q : VK) (G : Tr → Prop) : Prop := ∀ p t H', Fr [b] H H' → Box b n H' → TrP K H' t p → G t → Q (.ref p) H'
/-- kinds or marks: a list of the law's -/
def NmL (H : Hp) (b l : Addr) (ks : List Str) : Prop := H l = some (.lst (ks.map V.str)) ∧ l ≠ b ∧ ks.length ≤ 26 ∧ ∀ k ∈ ks, Nm k
theorem Nm.ok {z : Str} (h : Nm z) : PyData.strOk z = true := by
  unfold PyData.strOk
  rw [← Array.all_toList, List.all_eq_true]
  intro c hc
  have := (h.2.2 c hc).2
  exact decide_eq_true (by omega)
theorem told_st (w k : Str) (d : Int) : ((Tr.st k d).told w).length ≤ 1 := by
  show (if Str.ofString "step" = w then [k] else []).length ≤ 1
  split <;> simp
theorem told_mk (w k : Str) : ((Tr.mk k).told w).length ≤ 1 := by
  show (if Str.ofString "marked" = w then [k] else []).length ≤ 1
  split <;> simp
theorem told_st0 (k : Str) (d : Int) : (Tr.st k d).told "marked" = [] := if_neg (by decide +kernel)
theorem NmL.fr {H H' : Hp} {b l : Addr} {ks : List Str} (h : NmL H b l ks) (f : Fr [b] H H') : NmL H' b l ks := ⟨f _ _ (fun z => h.2.1 (List.mem_singleton.mp z)) h.1, h.2⟩
def spLeaf (K : PySem.W.Frag) : Sp := fun vs H Q _ => ∃ (b kl : Addr) (sh : Bool) (ks : List Str) (n : Nat), vs = [.ref b, .ref kl, .bl sh] ∧ Box b (n + 5) H ∧ NmL H b kl ks ∧
  Ends5 K b n H Q fun t => t.walk ∧ (sh = true → t.dep = 1) ∧ ∀ ms, Gd ks ms false 1 t

def spLook (K : PySem.W.Frag) (d : Nat) : Sp := fun vs H Q _ => ∃ (b kl ml : Addr) (ks ms : List Str) (m n : Nat) (sh : Bool), vs = [.ref b, .int m, .ref kl, .ref ml, .bl sh] ∧ Box b (n + 10 * m - 5) H ∧ NmL H b kl ks ∧ NmL H b ml ms ∧ 1 ≤ m ∧ m ≤ d ∧ m < 1000 ∧
  Ends5 K b n H Q fun t => Gd ks ms false m t ∧ (m = 1 → t.walk ∧ (sh = true → t.dep = 1))
def spTest (K : PySem.W.Frag) (d : Nat) : Sp := fun vs H Q _ => ∃ (b kl ml : Addr) (ks ms : List Str) (m n : Nat) (sh : Bool), vs = [.ref b, .int m, .ref kl, .ref ml, .bl sh] ∧ Box b (n + 10 * m - 3) H ∧ NmL H b kl ks ∧ NmL H b ml ms ∧ 1 ≤ m ∧ m ≤ d ∧ m < 1000 ∧
  Ends5 K b n H Q fun t => Gd ks ms true m t
abbrev s_leaf : Stmt := topS 31
abbrev n_leaf : List Str := ["_law_box_here", "_law_kinds_so", "_law_short", "_law_kind", "_law_once"]
theorem sc_leaf : FnScope n_leaf ["_law_box_here", "_law_kinds_so", "_law_short"] (defScope s_leaf) := ⟨rfl, rfl, rfl, by decide +kernel, rfl, by decide +kernel, by decide +kernel⟩
theorem nm_leaf : nvB n_leaf (defScope s_leaf) 0 "_law_box_here" = true ∧ nvB n_leaf (defScope s_leaf) 1 "_law_kinds_so" = true ∧ nvB n_leaf (defScope s_leaf) 2 "_law_short" = true ∧ nvB n_leaf (defScope s_leaf) 3 "_law_kind" = true ∧ nvB n_leaf (defScope s_leaf) 4 "_law_once" = true ∧ lvB n_leaf (defScope s_leaf) 3 "_law_kind" = true ∧ lvB n_leaf (defScope s_leaf) 4 "_law_once" = true ∧ gvB (defScope s_leaf) "_law_of" = true ∧ gvB (defScope s_leaf) "_law_take" = true := by decide +kernel
theorem cl_leaf {Γ : Gm} (dfn : Dfn Γ "_law_leaf" s_leaf ["_law_box_here", "_law_kinds_so", "_law_short"]) (T : Names Γ) (c_law_take : Cl Γ CX0 1 "_law_take" spTake []) (c_law_of : Cl Γ CX0 2 "_law_of" (spOf Γ.K) []) : Cl Γ CX0 (3) "_law_leaf" (spLeaf Γ.K) [] := by
  refine dfn.cl sc_leaf (fun vs H Q E h => ?_) (fun f cdv A outer s H vs Q E hg h => ?_)
  · obtain ⟨b, kl, sh, ks, n, rfl, _⟩ := h
    rfl
  obtain ⟨b, kl, sh, ks, n, rfl, hb, hk, q⟩ := h
  have nd := sc_leaf.nd
  obtain ⟨v0, v1, v2, v3, v4, l3, l4, g__law_of, g__law_take⟩ := nm_leaf
  refine ⟨_, (C8.pss_cut (pst (i := 3) nd l3 (pcl c_law_take hg (by omega) g__law_take pass0 (pa_cons (ps 0 v0) (pa_cons pe_int pa_nil))))
    (pss_cons (ps_ifB (PW.pt (pw_orB (pt_cm (k_eq hg) (ps 3 v3) pe_int (nomark _)) (pw_or1 (pt_cm (k_eq hg) (ps 1 v1) (pe_lst pa_nil) (nomark _)))))
    (pss_one (ps_ret (pe_tup (pa_cons pe_str pa_nil))))
    pss_nil)
    (pss_cons (pst (i := 4) nd l4 (pe_tup (pa_cons pe_str (pa_cons (pcl c_law_of hg (by omega) g__law_of pass0 (pa_cons (ps 0 v0) (pa_cons (ps 1 v1) pa_nil))) (pa_cons (pcl c_law_of hg (by omega) g__law_of pass0 (pa_cons (ps 0 v0) (pa_cons (pe_lst (pa_cons pe_int (pa_cons pe_int (pa_cons (pe_un (k_neg hg) pe_int) pa_nil)))) pa_nil))) pa_nil)))))
    (pss_cons (ps_ifB (PW.pt (pw_orB (pt_tr hg (ps 2 v2)) (pw_or1 (pt_cm (k_lt hg) (ps 3 v3) pe_int (nomark _)))))
    (pss_one (ps_ret (ps 4 v4)))
    pss_nil)
    (pss_one (ps_ret (pe_tup (pa_cons pe_str (pa_cons (ps 4 v4) (pa_cons (pe_tup (pa_cons pe_str (pa_cons (pcl c_law_of hg (by omega) g__law_of pass0 (pa_cons (ps 0 v0) (pa_cons (ps 1 v1) pa_nil))) (pa_cons (pcl c_law_of hg (by omega) g__law_of pass0 (pa_cons (ps 0 v0) (pa_cons (pe_lst (pa_cons pe_int (pa_cons pe_int (pa_cons (pe_un (k_neg hg) pe_int) pa_nil)))) pa_nil))) pa_nil)))) pa_nil)))))))))), ?_⟩
  refine st_start (σ := [some _, some _, some _, none, none]) rfl ?_
  walk_at "dn"
  have okk : ∀ k ∈ ks, PyData.strOk k = true := fun k hk2 => Nm.ok (hk.2.2.2 k hk2)
  have hend : ∀ (H2 : Hp) (F : List (PF (E1 Γ))) (R R' : List (RS (E1 Γ))) (m : Nat), SS (E := E1 Γ) H [b] H2 F R → Pick R (boxR b (n + m)) R' (boxR b n) → [V.str (Str.ofString "here")].length ≤ sizeLine ∧ ∀ p, H2 p = none → Q (.ref p) (upd H2 p (.tup [.str (Str.ofString "here")])) := by
    intro H2 F R R' m s pk
    refine ⟨szl (by simp only [List.length_cons, List.length_nil]; omega), fun p hp => ?_⟩
    have s' := s.newT (xs := [.str (Str.ofString "here")]) hp
    exact q p (.z "here") _ s'.fr ((s'.box pk.mem).less (by omega)) (SqT.of upd_same) ⟨rfl, fun _ => rfl, fun ms => ⟨rfl, by decide, by decide, by decide, Nat.le_refl _⟩⟩
  have pair : ∀ (H1 : Hp) (F : List (PF (E1 Γ))) (R R1 R2 : List (RS (E1 Γ))) (m : Nat) (K : Addr → Hp → V → V → Prop), ks ≠ [] → SS (E := E1 Γ) H [b] H1 F R → Pick R (boxR b (m + 2)) R1 (boxR b (m + 1)) → Pick R1 (boxR b (m + 1)) R2 (boxR b m) →
      (∀ p k d H' pl, k ∈ ks → (d = 1 ∨ d = -1) → H' p = none → SS (E := E1 Γ) H [b] (upd H' p (.tup [.str (Str.ofString "step"), .str k, .int d])) (tupF p [.str (Str.ofString "step"), .str k, .int d] :: F) (lstR pl [.int 1, .int 1, .int (-1)] :: R2) → K p H' (.str k) (.int d)) →
      spOf Γ.K [.ref b, .ref kl] H1 (fun x H1 => [V.int 1, V.int 1, V.int (-1)].length ≤ sizeLine ∧ ∀ p, H1 p = none → spOf Γ.K [.ref b, .ref p] (upd H1 p (.lst [.int 1, .int 1, .int (-1)])) (fun x_1 H1 => [V.str (Str.ofString "step"), x, x_1].length ≤ sizeLine ∧ ∀ p, H1 p = none → K p H1 x x_1) E0) E0 := by
    intro H1 F R R1 R2 m K hne s pk1 pk2 k
    have hkl : H1 kl = some (.lst (ks.map V.str)) := s.fr _ _ (fun z => hk.2.1 (List.mem_singleton.mp z)) hk.1
    have hpos : 0 < ks.length := List.length_pos_iff.mpr hne
    refine ⟨b, _, m + 1, rfl, s.box pk1.mem, .inl ⟨kl, _, rfl, hk.2.1, SqL.of hkl, by rw [List.length_map]; exact hpos, by rw [List.length_map]; have := hk.2.2.1; omega, fun v hv H3 f3 b3 => ?_⟩⟩
    obtain ⟨z, hz, rfl⟩ := List.mem_map.mp hv
    have s3 := s.draw pk1 f3 b3
    refine ⟨szl (by simp only [List.length_cons, List.length_nil]; omega), fun pl hpl => ?_⟩
    have s4 := s3.newC (o := .lst [.int 1, .int 1, .int (-1)]) hpl (fun z => z)
    have hne2 : pl ≠ b := fun e => by
      obtain ⟨xs, e2⟩ := b3.cell
      rw [e, e2] at hpl; cases hpl
    refine ⟨b, _, m, rfl, s4.box (.tail _ pk2.mem), .inl ⟨pl, _, rfl, hne2, SqL.of upd_same, by simp only [List.length_cons, List.length_nil]; omega, by simp only [List.length_cons, List.length_nil]; omega, fun v hv H5 f5 b5 => ?_⟩⟩
    have s5 := s4.draw (.next pk2) f5 b5
    refine ⟨szl (by simp only [List.length_cons, List.length_nil]; omega), fun p hp => ?_⟩
    obtain ⟨d, rfl, hd⟩ : ∃ d : Int, v = .int d ∧ (d = 1 ∨ d = -1) := by
      simp only [List.mem_cons, List.not_mem_nil, or_false] at hv
      rcases hv with rfl | rfl | rfl
      · exact ⟨1, rfl, .inl rfl⟩
      · exact ⟨1, rfl, .inl rfl⟩
      · exact ⟨-1, rfl, .inr rfl⟩
    exact k p z d H5 pl hz hd hp (s5.newT hp)
  refine ⟨fun σ' H1 => ∃ r : Int, σ' = [some (.ref b), some (.ref kl), some (.bl sh), some (.int r), none] ∧ SS (E := E1 Γ) H [b] H1 [] [boxR b (n + 4)], ⟨b, 8, n + 4, rfl, by omega, by omega, hb, fun r H1 r0 r1 f1 b1 => ⟨r, rfl, (SS.box1 (E := E1 Γ) hb).draw .here f1 b1⟩⟩, ?_⟩
  rintro σ' H1 ⟨r, rfl, s1⟩
  walk_at "di"
  refine br_d (fun _ => hend _ _ _ _ _ s1 .here) (fun _ => ⟨szl (by simp only [List.length_nil]; omega), fun pe hpe => ?_⟩)
  have s2 := s1.newC (o := .lst []) hpe (fun z => z)
  have hkl : upd H1 pe (.lst []) kl = some (.lst (ks.map V.str)) := s2.fr _ _ (fun z => hk.2.1 (List.mem_singleton.mp z)) hk.1
  refine wo_eqE (SqL.of hkl) (SqL.of upd_same) okk ?_
  walk_at "di"
  refine br_b (fun e => hend _ _ _ _ _ s2 (.next .here)) (fun e => ?_)
  have hne : ks ≠ [] := fun z => by rw [z] at e; cases e
  refine pair _ _ _ _ _ (n + 2) _ hne s2 (.next .here) (.next .here) fun p k d H' pl hk1 hd hp s => ?_
  walk_at "di"
  have end1 : sh = true ∨ sh = false → Q (.ref p) (upd H' p (.tup [.str (Str.ofString "step"), .str k, .int d])) := fun _ =>
    q p (.st k d) _ s.fr ((s.box (.tail _ (.tail _ (.head _)))).less (by omega)) (s.tup (.head _)) ⟨trivial, fun _ => rfl, fun ms => ⟨⟨hk1, hd⟩, by simp [Tr.dep], Nat.le_trans (told_st _ _ _) (by omega), told_st _ _ _, Nat.le_refl _⟩⟩
  refine br_b (fun e => end1 (.inl e)) (fun e => br_d (fun _ => end1 (.inr e)) (fun _ => ?_))
  refine pair _ _ _ _ _ n _ hne s (.next (.next .here)) (.next (.next .here)) fun p2 k2 d2 H'' pl2 hk2 hd2 hp2 s' => ⟨szl (by simp only [List.length_cons, List.length_nil]; omega), fun p3 hp3 => ?_⟩
  have s6 := s'.newT (xs := [.str (Str.ofString "then"), .ref p, .ref p2]) hp3
  refine q p3 (.two "then" (.st k d) (.st k2 d2)) _ s6.fr (s6.box (.tail _ (.tail _ (.tail _ (.head _))))) ⟨p, p2, s6.tup (.head _), s6.tup (.tail _ (.tail _ (.head _))), s6.tup (.tail _ (.head _))⟩ ⟨⟨rfl, trivial, trivial⟩, (fun h => by rw [e] at h; cases h), fun ms => ⟨.inl ⟨.inl rfl, ⟨hk1, hd⟩, ⟨hk2, hd2⟩⟩, by simp [Tr.dep], ?_, ?_, Nat.le_refl _⟩⟩
  · show ((Tr.st k d).told "step" ++ (Tr.st k2 d2).told "step").length ≤ 2 * 1
    rw [List.length_append]
    have := told_st "step" k d
    have := told_st "step" k2 d2
    omega
  · show ((Tr.st k d).told "marked" ++ (Tr.st k2 d2).told "marked").length ≤ 1
    rw [told_st0, told_st0]
    simp
abbrev s_look : Stmt := topS 32
abbrev n_look : List Str := ["_law_box_here", "_law_most", "_law_kinds_so", "_law_marks_so", "_law_short", "_law_front", "_law_word", "_law_mine"]
theorem sc_look : FnScope n_look ["_law_box_here", "_law_most", "_law_kinds_so", "_law_marks_so", "_law_short"] (defScope s_look) := ⟨rfl, rfl, rfl, by decide +kernel, rfl, by decide +kernel, by decide +kernel⟩
theorem nm_look : nvB n_look (defScope s_look) 0 "_law_box_here" = true ∧ nvB n_look (defScope s_look) 1 "_law_most" = true ∧ nvB n_look (defScope s_look) 2 "_law_kinds_so" = true ∧ nvB n_look (defScope s_look) 3 "_law_marks_so" = true ∧ nvB n_look (defScope s_look) 4 "_law_short" = true ∧ nvB n_look (defScope s_look) 5 "_law_front" = true ∧ nvB n_look (defScope s_look) 6 "_law_word" = true ∧ nvB n_look (defScope s_look) 7 "_law_mine" = true ∧ lvB n_look (defScope s_look) 5 "_law_front" = true ∧ lvB n_look (defScope s_look) 6 "_law_word" = true ∧ lvB n_look (defScope s_look) 7 "_law_mine" = true ∧ gvB (defScope s_look) "_law_leaf" = true ∧ gvB (defScope s_look) "_law_look" = true ∧ gvB (defScope s_look) "_law_of" = true ∧ gvB (defScope s_look) "_law_take" = true ∧ gvB (defScope s_look) "_law_test" = true := by decide +kernel
theorem cl_look {Γ : Gm} (dfn : Dfn Γ "_law_look" s_look ["_law_box_here", "_law_most", "_law_kinds_so", "_law_marks_so", "_law_short"]) (T : Names Γ) {d : Nat} (c_law_take : Cl Γ CX0 1 "_law_take" spTake []) (c_law_of : Cl Γ CX0 2 "_law_of" (spOf Γ.K) []) (c_law_leaf : Cl Γ CX0 3 "_law_leaf" (spLeaf Γ.K) []) (c_law_look : Cl Γ CX0 (2 * d + 3) "_law_look" (spLook Γ.K d) []) (c_law_test : Cl Γ CX0 (2 * d + 4) "_law_test" (spTest Γ.K d) []) : Cl Γ CX0 (2 * d + 5) "_law_look" (spLook Γ.K (d + 1)) [] := by
  refine dfn.cl sc_look (fun vs H Q E h => ?_) (fun f cdv A outer s H vs Q E hg h => ?_)
  · obtain ⟨b, kl, ml, ks, ms, m, n, sh, rfl, _⟩ := h
    rfl
  obtain ⟨b, kl, ml, ks, ms, m, n, sh, rfl, hb, hk, hm, h1, hd, hm40, q⟩ := h
  have nd := sc_look.nd
  obtain ⟨v0, v1, v2, v3, v4, v5, v6, v7, l5, l6, l7, g__law_leaf, g__law_look, g__law_of, g__law_take, g__law_test⟩ := nm_look
  refine ⟨_, (pss_cons (ps_ifB (pt_cm (k_lt hg) (ps 1 v1) pe_int (nomark _))
    (pss_one (ps_ret (pcl c_law_leaf hg (by omega) g__law_leaf pass0 (pa_cons (ps 0 v0) (pa_cons (ps 2 v2) (pa_cons (ps 4 v4) pa_nil))))))
    pss_nil)
    (C8.pss_cut (pst (i := 5) nd l5 (pe_op (k_add hg) pe_int (pcl c_law_take hg (by omega) g__law_take pass0 (pa_cons (ps 0 v0) (pa_cons (pe_op (k_sub hg) (ps 1 v1) pe_int) pa_nil)))))
    (C8.pss_cut (pst (i := 6) nd l6 (pcl c_law_of hg (by omega) g__law_of pass0 (pa_cons (ps 0 v0) (pa_cons (pe_lst (pa_cons pe_str (pa_cons pe_str (pa_cons pe_str (pa_cons pe_str (pa_cons pe_str pa_nil)))))) pa_nil))))
    (C8.pss_cut (pst (i := 7) nd l7 (pcl c_law_look hg (by omega) g__law_look pass0 (pa_cons (ps 0 v0) (pa_cons (ps 5 v5) (pa_cons (ps 2 v2) (pa_cons (ps 3 v3) (pa_cons (ps 4 v4) pa_nil)))))))
    (pss_cons (ps_ifB (pt_cm (k_eq hg) (ps 6 v6) pe_str (nomark _))
    (pss_one (ps_ret (pe_tup (pa_cons pe_str (pa_cons (ps 7 v7) (pa_cons (pcl c_law_test hg (by omega) g__law_test pass0 (pa_cons (ps 0 v0) (pa_cons (pe_op (k_sub hg) (ps 1 v1) (ps 5 v5)) (pa_cons (ps 2 v2) (pa_cons (ps 3 v3) (pa_cons (ps 4 v4) pa_nil)))))) pa_nil))))))
    pss_nil)
    (pss_one (ps_ret (pe_tup (pa_cons (ps 6 v6) (pa_cons (ps 7 v7) (pa_cons (pcl c_law_look hg (by omega) g__law_look pass0 (pa_cons (ps 0 v0) (pa_cons (pe_op (k_sub hg) (ps 1 v1) (ps 5 v5)) (pa_cons (ps 2 v2) (pa_cons (ps 3 v3) (pa_cons (ps 4 v4) pa_nil)))))) pa_nil))))))))))), ?_⟩
  refine st_start (σ := [some _, some _, some _, some _, some _, none, none, none]) rfl ?_
  walk_at "dn"
  refine br_d (fun h => ?_) (fun h => ?_)
  · obtain rfl : m = 1 := by omega
    exact ⟨b, kl, sh, ks, n, rfl, hb.less (by omega), hk, fun p t H' f b' hp ⟨w, s, g⟩ => q p t H' f b' hp ⟨g ms, fun _ => ⟨w, s⟩⟩⟩
  refine ⟨fun σ' H1 => ∃ fr : Nat, σ' = [some (.ref b), some (.int m), some (.ref kl), some (.ref ml), some (.bl sh), some (.int fr), none, none] ∧ 1 ≤ fr ∧ fr < m ∧ SS (E := E1 Γ) H [b] H1 [] [boxR b (n + 10 * m - 6)], ?_, ?_⟩
  · refine ⟨b, _, n + 10 * m - 6, rfl, by omega, by omega, hb.less (by omega), fun r H1 r0 r1 f1 b1 => ?_⟩
    walk_at "di"
    exact ⟨(1 + r).toNat, by rw [show (1 + r) = (((1 + r).toNat : Nat) : Int) from by omega]; rfl, by omega, by omega, (SS.box1 (E := E1 Γ) hb).draw (m := n + 10 * m - 5) .here f1 b1⟩
  rintro σ' H1 ⟨fr, rfl, f1, f2, s1⟩
  refine ⟨fun σ' H2 => ∃ (w : Str) (pl : Addr) (xs : List V), σ' = [some (.ref b), some (.int m), some (.ref kl), some (.ref ml), some (.bl sh), some (.int fr), some (.str w), none] ∧ (w = "then" ∨ w = "or" ∨ w = "and" ∨ w = "when") ∧ SS (E := E1 Γ) H [b] H2 [] [lstR pl xs, boxR b (n + 10 * m - 7)], ?_, ?_⟩
  · walk_at "di"
    refine ⟨szl (by simp only [List.length_cons, List.length_nil]; omega), fun pl hpl => ?_⟩
    have s2 := s1.newC (o := .lst [.str (Str.ofString "then"), .str (Str.ofString "or"), .str (Str.ofString "or"), .str (Str.ofString "and"), .str (Str.ofString "when")]) hpl (fun z => z)
    have hne2 : pl ≠ b := fun e => by
      obtain ⟨xs, e2⟩ := (s1.box (.head _)).cell
      rw [e, e2] at hpl; cases hpl
    refine ⟨b, _, n + 10 * m - 7, rfl, (s2.box (.tail _ (.head _))).less (by omega), .inl ⟨pl, _, rfl, hne2, SqL.of upd_same, by simp only [List.length_cons, List.length_nil]; omega, by simp only [List.length_cons, List.length_nil]; omega, fun v hv H5 f5 b5 => ?_⟩⟩
    simp only [List.mem_cons, List.not_mem_nil, or_false] at hv
    have s5 := s2.draw (.next .here) f5 b5
    rcases hv with rfl | rfl | rfl | rfl | rfl
    · exact ⟨_, pl, _, rfl, .inl rfl, s5⟩
    · exact ⟨_, pl, _, rfl, .inr (.inl rfl), s5⟩
    · exact ⟨_, pl, _, rfl, .inr (.inl rfl), s5⟩
    · exact ⟨_, pl, _, rfl, .inr (.inr (.inl rfl)), s5⟩
    · exact ⟨_, pl, _, rfl, .inr (.inr (.inr rfl)), s5⟩
  rintro σ' H2 ⟨w, pl, xs, rfl, hw, s2⟩
  refine ⟨fun σ' H3 => ∃ (p1 : Addr) (t1 : Tr), σ' = [some (.ref b), some (.int m), some (.ref kl), some (.ref ml), some (.bl sh), some (.int fr), some (.str w), some (.ref p1)] ∧ Gd ks ms false fr t1 ∧ SS (E := E1 Γ) H [b] H3 [trF t1 p1] [lstR pl xs, boxR b (n + 10 * (m - fr) - 3)], ?_, ?_⟩
  · walk_at "di"
    refine ⟨b, kl, ml, ks, ms, fr, n + 10 * (m - fr) - 3, sh, rfl, (s2.box (.tail _ (.head _))).less (by omega), hk.fr s2.fr, hm.fr s2.fr, f1, by omega, by omega, fun p t H' f b' hp g => ?_⟩
    exact ⟨p, t, rfl, g.1, (s2.draw (.next .here) f b').add (trF t p) hp⟩
  rintro σ' H3 ⟨p1, t1, rfl, g1, s3⟩
  walk_at "di"
  have g1d := g1.dep
  have g1s := g1.st
  have g1m := g1.tm
  simp only [Bool.false_eq_true, if_false] at g1d
  refine br_d (fun hw2 => ?_) (fun hw2 => ?_)
  · subst hw2
    refine ⟨b, kl, ml, ks, ms, m - fr, n, sh, by rw [show ((m : Int) - fr) = ((m - fr : Nat) : Int) from by omega], (s3.box (.tail _ (.head _))).less (by omega), hk.fr s3.fr, hm.fr s3.fr, by omega, by omega, by omega, fun p2 t2 H' f b' hp2 g2 => ⟨szl (by simp only [List.length_cons, List.length_nil]; omega), fun p3 hp3 => ?_⟩⟩
    have s4 := ((s3.draw (.next .here) f b').add (trF t2 p2) hp2).newT (xs := [.str (Str.ofString "when"), .ref p1, .ref p2]) hp3
    have g2d := g2.dep
    have g2s := g2.st
    have g2m := g2.tm
    simp only [if_true] at g2d
    refine q p3 (.two "when" t1 t2) _ s4.fr (s4.box (.tail _ (.head _))) ⟨p1, p2, s4.tup (.head _), s4.f _ (.tail _ (.tail _ (.head _))), s4.f _ (.tail _ (.head _))⟩ ⟨⟨.inr ⟨rfl, g1.wf, g2.wf⟩, ?_, ?_, ?_, h1⟩, fun e => by omega⟩
    · simp only [Tr.dep, Bool.false_eq_true, if_false]; omega
    · simp only [Tr.told, List.length_append]; omega
    · simp only [Tr.told, List.length_append]; omega
  · refine ⟨b, kl, ml, ks, ms, m - fr, n, sh, by rw [show ((m : Int) - fr) = ((m - fr : Nat) : Int) from by omega], (s3.box (.tail _ (.head _))).less (by omega), hk.fr s3.fr, hm.fr s3.fr, by omega, by omega, by omega, fun p2 t2 H' f b' hp2 g2 => ⟨szl (by simp only [List.length_cons, List.length_nil]; omega), fun p3 hp3 => ?_⟩⟩
    replace g2 := g2.1
    have s4 := ((s3.draw (.next .here) f b').add (trF t2 p2) hp2).newT (xs := [.str w, .ref p1, .ref p2]) hp3
    have g2d := g2.dep
    have g2s := g2.st
    have g2m := g2.tm
    simp only [Bool.false_eq_true, if_false] at g2d
    have hw3 : w = "then" ∨ w = "or" ∨ w = "and" := by
      rcases hw with h | h | h | h
      · exact .inl h
      · exact .inr (.inl h)
      · exact .inr (.inr h)
      · exact absurd h hw2
    refine q p3 (.two w t1 t2) _ s4.fr (s4.box (.tail _ (.head _))) ⟨p1, p2, s4.tup (.head _), s4.f _ (.tail _ (.tail _ (.head _))), s4.f _ (.tail _ (.head _))⟩ ⟨⟨.inl ⟨hw3, g1.wf, g2.wf⟩, ?_, ?_, ?_, h1⟩, fun e => by omega⟩
    · simp only [Tr.dep, Bool.false_eq_true, if_false]; omega
    · simp only [Tr.told, List.length_append]; omega
    · simp only [Tr.told, List.length_append]; omega
abbrev s_test : Stmt := topS 33
abbrev n_test : List Str := ["_law_box_here", "_law_most", "_law_kinds_so", "_law_marks_so", "_law_short", "_law_menu", "_law_word", "_law_front", "_law_mine", "_law_its"]
theorem sc_test : FnScope n_test ["_law_box_here", "_law_most", "_law_kinds_so", "_law_marks_so", "_law_short"] (defScope s_test) := ⟨rfl, rfl, rfl, by decide +kernel, rfl, by decide +kernel, by decide +kernel⟩
theorem nm_test : nvB n_test (defScope s_test) 0 "_law_box_here" = true ∧ nvB n_test (defScope s_test) 1 "_law_most" = true ∧ nvB n_test (defScope s_test) 2 "_law_kinds_so" = true ∧ nvB n_test (defScope s_test) 3 "_law_marks_so" = true ∧ nvB n_test (defScope s_test) 4 "_law_short" = true ∧ nvB n_test (defScope s_test) 5 "_law_menu" = true ∧ nvB n_test (defScope s_test) 6 "_law_word" = true ∧ nvB n_test (defScope s_test) 7 "_law_front" = true ∧ nvB n_test (defScope s_test) 8 "_law_mine" = true ∧ nvB n_test (defScope s_test) 9 "_law_its" = true ∧ lvB n_test (defScope s_test) 5 "_law_menu" = true ∧ lvB n_test (defScope s_test) 6 "_law_word" = true ∧ lvB n_test (defScope s_test) 7 "_law_front" = true ∧ lvB n_test (defScope s_test) 8 "_law_mine" = true ∧ lvB n_test (defScope s_test) 9 "_law_its" = true ∧ gvB (defScope s_test) "_law_leaf" = true ∧ gvB (defScope s_test) "_law_look" = true ∧ gvB (defScope s_test) "_law_of" = true ∧ gvB (defScope s_test) "_law_take" = true ∧ gvB (defScope s_test) "_law_test" = true := by decide +kernel
theorem cl_test {Γ : Gm} (dfn : Dfn Γ "_law_test" s_test ["_law_box_here", "_law_most", "_law_kinds_so", "_law_marks_so", "_law_short"]) (T : Names Γ) {d : Nat} (c_law_take : Cl Γ CX0 1 "_law_take" spTake []) (c_law_of : Cl Γ CX0 2 "_law_of" (spOf Γ.K) []) (c_law_leaf : Cl Γ CX0 3 "_law_leaf" (spLeaf Γ.K) []) (c_law_look : Cl Γ CX0 (2 * d + 5) "_law_look" (spLook Γ.K (d + 1)) []) (c_law_test : Cl Γ CX0 (2 * d + 4) "_law_test" (spTest Γ.K d) []) : Cl Γ CX0 (2 * d + 6) "_law_test" (spTest Γ.K (d + 1)) [] := by
  refine dfn.cl sc_test (fun vs H Q E h => ?_) (fun f cdv A outer s H vs Q E hg h => ?_)
  · obtain ⟨b, kl, ml, ks, ms, m, n, sh, rfl, _⟩ := h
    rfl
  obtain ⟨b, kl, ml, ks, ms, m, n, sh, rfl, hb, hk, hm, h1, hd, hm40, q⟩ := h
  have nd := sc_test.nd
  obtain ⟨v0, v1, v2, v3, v4, v5, v6, v7, v8, v9, l5, l6, l7, l8, l9, g__law_leaf, g__law_look, g__law_of, g__law_take, g__law_test⟩ := nm_test
  refine ⟨_, (pss_cons (pst (i := 5) nd l5 (pe_lst (pa_cons pe_str (pa_cons pe_str (pa_cons pe_str (pa_cons pe_str (pa_cons pe_str (pa_cons pe_str pa_nil))))))))
    (C8.pss_cut (ps_ifB (pt_cm (k_gt hg) (ps 1 v1) pe_int (nomark _))
    (pss_one (pst (i := 5) nd l5 (pe_lst (pa_cons pe_str (pa_cons pe_str (pa_cons pe_str (pa_cons pe_str (pa_cons pe_str (pa_cons pe_str pa_nil)))))))))
    pss_nil)
    (C8.pss_cut (pst (i := 6) nd l6 (pcl c_law_of hg (by omega) g__law_of pass0 (pa_cons (ps 0 v0) (pa_cons (ps 5 v5) pa_nil))))
    (pss_cons (ps_ifB (PW.pt (pw_orB (pt_cm (k_eq hg) (ps 6 v6) pe_str (nomark _)) (pw_or1 (PW.pt (pw_andB (pt_cm (k_eq hg) (ps 6 v6) pe_str (nomark _)) (pw_and1 (pt_cm (k_eq hg) (ps 3 v3) (pe_lst pa_nil) (nomark _))))))))
    (pss_one (ps_ret (pe_tup (pa_cons pe_str pa_nil))))
    pss_nil)
    (pss_cons (ps_ifB (pt_cm (k_eq hg) (ps 6 v6) pe_str (nomark _))
    (pss_one (ps_ret (pe_tup (pa_cons pe_str (pa_cons (pcl c_law_of hg (by omega) g__law_of pass0 (pa_cons (ps 0 v0) (pa_cons (ps 3 v3) pa_nil))) pa_nil)))))
    pss_nil)
    (pss_cons (ps_ifB (pt_cm (k_eq hg) (ps 6 v6) pe_str (nomark _))
    (pss_one (ps_ret (pe_tup (pa_cons pe_str (pa_cons (pe_tup (pa_cons pe_str (pa_cons (pcl c_law_leaf hg (by omega) g__law_leaf pass0 (pa_cons (ps 0 v0) (pa_cons (ps 2 v2) (pa_cons (ps 4 v4) pa_nil)))) pa_nil))) pa_nil)))))
    pss_nil)
    (pss_cons (ps_ifB (pt_cm (k_eq hg) (ps 6 v6) pe_str (nomark _))
    (pss_one (ps_ret (pe_tup (pa_cons pe_str (pa_cons (pcl c_law_look hg (by omega) g__law_look pass0 (pa_cons (ps 0 v0) (pa_cons (ps 1 v1) (pa_cons (ps 2 v2) (pa_cons (ps 3 v3) (pa_cons (ps 4 v4) pa_nil)))))) pa_nil)))))
    pss_nil)
    (pss_cons (pst (i := 7) nd l7 (pe_op (k_add hg) pe_int (pcl c_law_take hg (by omega) g__law_take pass0 (pa_cons (ps 0 v0) (pa_cons (pe_op (k_sub hg) (ps 1 v1) pe_int) pa_nil)))))
    (pss_cons (ps_ifB (pt_cm (k_eq hg) (ps 6 v6) pe_str (nomark _))
    (pss_cons (pst (i := 8) nd l8 (pcl c_law_look hg (by omega) g__law_look pass0 (pa_cons (ps 0 v0) (pa_cons (ps 7 v7) (pa_cons (ps 2 v2) (pa_cons (ps 3 v3) (pa_cons (ps 4 v4) pa_nil)))))))
    (pss_one (ps_ret (pe_tup (pa_cons pe_str (pa_cons (ps 8 v8) (pa_cons (pcl c_law_look hg (by omega) g__law_look pass0 (pa_cons (ps 0 v0) (pa_cons (pe_op (k_sub hg) (ps 1 v1) (ps 7 v7)) (pa_cons (ps 2 v2) (pa_cons (ps 3 v3) (pa_cons (ps 4 v4) pa_nil)))))) pa_nil)))))))
    pss_nil)
    (pss_cons (pst (i := 8) nd l8 (pcl c_law_test hg (by omega) g__law_test pass0 (pa_cons (ps 0 v0) (pa_cons (ps 7 v7) (pa_cons (ps 2 v2) (pa_cons (ps 3 v3) (pa_cons (ps 4 v4) pa_nil)))))))
    (pss_cons (pst (i := 9) nd l9 (pcl c_law_test hg (by omega) g__law_test pass0 (pa_cons (ps 0 v0) (pa_cons (pe_op (k_sub hg) (ps 1 v1) (ps 7 v7)) (pa_cons (ps 2 v2) (pa_cons (ps 3 v3) (pa_cons (ps 4 v4) pa_nil)))))))
    (pss_one (ps_ret (pe_ifB (pt_cm (k_eq hg) (ps 6 v6) pe_str (nomark _)) (pe_tup (pa_cons pe_str (pa_cons (pe_tup (pa_cons pe_str (pa_cons (ps 8 v8) (pa_cons (ps 9 v9) pa_nil)))) pa_nil))) (pe_tup (pa_cons (ps 6 v6) (pa_cons (ps 8 v8) (pa_cons (ps 9 v9) pa_nil)))))))))))))))))), ?_⟩
  refine st_start (σ := [some _, some _, some _, some _, some _, none, none, none, none, none]) rfl ?_
  walk_at "dn"
  have tend : ∀ (w : Str) (p : Addr) (t : Tr) (H2 : Hp) (F : List (PF (E1 Γ))) (R : List (RS (E1 Γ))) (N : Nat), SS (E := E1 Γ) H [b] H2 F R → boxR b (n + N) ∈ R → TrP Γ.K H2 t p → Gd ks ms true m t → Q (.ref p) H2 :=
    fun w p t H2 F R N s hbm hp g => q p t H2 s.fr ((s.box hbm).less (by omega)) hp g
  have alw : ∀ (H2 : Hp) (F : List (PF (E1 Γ))) (R : List (RS (E1 Γ))) (N : Nat), SS (E := E1 Γ) H [b] H2 F R → boxR b (n + N) ∈ R → [V.str (Str.ofString "always")].length ≤ sizeLine ∧ ∀ p, H2 p = none → Q (.ref p) (upd H2 p (.tup [.str (Str.ofString "always")])) := by
    intro H2 F R N s hbm
    refine ⟨szl (by simp only [List.length_cons, List.length_nil]; omega), fun p hp => ?_⟩
    exact tend "" p (.z "always") _ _ _ N (s.newT hp) hbm (SqT.of upd_same) ⟨rfl, by simp only [Tr.dep, if_true]; omega, by simp [Tr.told], by simp [Tr.told], h1⟩
  have okm : ∀ k ∈ ms, PyData.strOk k = true := fun k hk2 => Nm.ok (hm.2.2.2 k hk2)
  have s0 : SS (E := E1 Γ) H [b] H [] [boxR b (n + 10 * m - 3)] := SS.box1 hb
  refine ⟨szl (by simp only [List.length_cons, List.length_nil]; omega), fun pa hpa => ⟨fun σ' H1 => ∃ (pm : Addr) (ws : List Str) (R : List (RS (E1 Γ))), σ' = [some (.ref b), some (.int m), some (.ref kl), some (.ref ml), some (.bl sh), some (.ref pm), none, none, none, none] ∧ pm ≠ b ∧ 0 < ws.length ∧ ws.length ≤ 6 ∧
    ((m = 1 ∧ ∀ w ∈ ws, w = "found" ∨ w = "marked" ∨ w = "bare" ∨ w = "always") ∨ (1 < m ∧ ∀ w ∈ ws, w = "not" ∨ w = "and" ∨ w = "or" ∨ w = "xor" ∨ w = "found" ∨ w = "same")) ∧
    SS (E := E1 Γ) H [b] H1 [] [lstR pm (ws.map V.str), boxR b (n + 10 * m - 3)], ?_, ?_⟩⟩
  · have s1 := s0.newC (o := .lst [.str (Str.ofString "found"), .str (Str.ofString "found"), .str (Str.ofString "marked"), .str (Str.ofString "marked"), .str (Str.ofString "bare"), .str (Str.ofString "always")]) hpa (fun z => z)
    refine br_d (fun hm1 => ⟨szl (by simp only [List.length_cons, List.length_nil]; omega), fun pb hpb => ?_⟩) (fun hm1 => ?_)
    · have s2 := s1.drop.newC (o := .lst [.str (Str.ofString "not"), .str (Str.ofString "and"), .str (Str.ofString "or"), .str (Str.ofString "xor"), .str (Str.ofString "found"), .str (Str.ofString "same")]) hpb (fun z => z)
      refine ⟨pb, ["not", "and", "or", "xor", "found", "same"], [], rfl, fun e => ?_, by decide, by decide, .inr ⟨by omega, fun w hw => ?_⟩, s2⟩
      · obtain ⟨xs, e2⟩ := (s1.box (.tail _ (.head _))).cell
        rw [e, e2] at hpb; cases hpb
      · simpa using hw
    · refine ⟨pa, ["found", "found", "marked", "marked", "bare", "always"], [], rfl, fun e => ?_, by decide, by decide, .inl ⟨by omega, fun w hw => ?_⟩, s1⟩
      · obtain ⟨xs, e2⟩ := hb.cell
        rw [e, e2] at hpa; cases hpa
      · have := hw
        simp only [List.mem_cons, List.not_mem_nil, or_false] at this
        rcases this with h | h | h | h | h | h
        · exact .inl h
        · exact .inl h
        · exact .inr (.inl h)
        · exact .inr (.inl h)
        · exact .inr (.inr (.inl h))
        · exact .inr (.inr (.inr h))
  rintro σ' H1 ⟨pm, ws, _, rfl, hpb, hw0, hw6, hws, s1⟩
  refine ⟨fun σ' H2 => ∃ (w : Str) (pm : Addr) (xs : List V), σ' = [some (.ref b), some (.int m), some (.ref kl), some (.ref ml), some (.bl sh), some (.ref pm), some (.str w), none, none, none] ∧
    ((m = 1 ∧ (w = "found" ∨ w = "marked" ∨ w = "bare" ∨ w = "always")) ∨ (1 < m ∧ (w = "not" ∨ w = "and" ∨ w = "or" ∨ w = "xor" ∨ w = "found" ∨ w = "same"))) ∧ SS (E := E1 Γ) H [b] H2 [] [lstR pm xs, boxR b (n + 10 * m - 4)], ?_, ?_⟩
  · walk_at "di"
    refine ⟨b, _, n + 10 * m - 4, rfl, (s1.box (.tail _ (.head _))).less (by omega), .inl ⟨pm, _, rfl, hpb, SqL.of (s1.cell (.head _)), by rw [List.length_map]; omega, by rw [List.length_map]; omega, fun v hv H5 f5 b5 => ?_⟩⟩
    obtain ⟨w, hw, rfl⟩ := List.mem_map.mp hv
    refine ⟨w, pm, _, rfl, ?_, s1.draw (.next .here) f5 b5⟩
    rcases hws with ⟨h, k⟩ | ⟨h, k⟩
    · exact .inl ⟨h, k w hw⟩
    · exact .inr ⟨h, k w hw⟩
  rintro σ' H2 ⟨w, pm, xs, rfl, hw, s2⟩
  walk_at "di"
  have hml : H2 ml = some (.lst (ms.map V.str)) := s2.fr _ _ (fun z => hm.2.1 (List.mem_singleton.mp z)) hm.1
  have found : w = "found" → spLook Γ.K (d + 1) [.ref b, .int m, .ref kl, .ref ml, .bl sh] H2 (fun x H1 => [V.str (Str.ofString "found"), x].length ≤ sizeLine ∧ ∀ p, H1 p = none → Q (.ref p) (upd H1 p (.tup [.str (Str.ofString "found"), x]))) E0 := by
    intro _
    refine ⟨b, kl, ml, ks, ms, m, n, sh, rfl, (s2.box (.tail _ (.head _))).less (by omega), hk.fr s2.fr, hm.fr s2.fr, h1, hd, hm40, fun p t H' f b' hp g => ⟨szl (by simp only [List.length_cons, List.length_nil]; omega), fun p3 hp3 => ?_⟩⟩
    have s4 := ((s2.draw (.next .here) f b').add (trF t p) hp).newT (xs := [.str (Str.ofString "found"), .ref p]) hp3
    have gd := g.1.dep
    simp only [Bool.false_eq_true, if_false] at gd
    exact tend "" p3 (.one "found" t) _ _ _ 0 s4 (.tail _ (.head _)) ⟨p, s4.tup (.head _), s4.f _ (.tail _ (.head _))⟩ ⟨.inl ⟨rfl, g.1.wf⟩, by simp only [Tr.dep, if_true]; omega, g.1.st, g.1.tm, h1⟩
  refine br_d (fun hw1 => alw _ _ _ (10 * m - 4) s2 (by rw [show n + (10 * m - 4) = n + 10 * m - 4 from by omega]; exact .tail _ (.head _))) (fun hw1 => ?_)
  refine br_d (fun hw2 => ?_) (fun hw2 => br_f hw2 ?_)
  · refine ⟨szl (by simp only [List.length_nil]; omega), fun pe hpe => ?_⟩
    have s3 := s2.newC (o := .lst []) hpe (fun z => z)
    have hml3 : upd H2 pe (.lst []) ml = some (.lst (ms.map V.str)) := s3.fr _ _ (fun z => hm.2.1 (List.mem_singleton.mp z)) hm.1
    refine wo_eqE (SqL.of hml3) (SqL.of upd_same) okm ?_
    walk_at "di"
    refine br_b (fun e => alw _ _ _ (10 * m - 4) s3 (by rw [show n + (10 * m - 4) = n + 10 * m - 4 from by omega]; exact .tail _ (.tail _ (.head _)))) (fun e => br_t hw2 ?_)
    have hpos : 0 < ms.length := by cases ms with
      | nil => cases e
      | cons _ _ => exact Nat.succ_pos _
    refine ⟨b, _, n + 10 * m - 5, rfl, (s3.box (.tail _ (.tail _ (.head _)))).less (by omega), .inl ⟨ml, _, rfl, hm.2.1, SqL.of hml3, by rw [List.length_map]; exact hpos, by rw [List.length_map]; have := hm.2.2.1; omega, fun v hv H5 f5 b5 => ?_⟩⟩
    obtain ⟨k, hk1, rfl⟩ := List.mem_map.mp hv
    refine ⟨szl (by simp only [List.length_cons, List.length_nil]; omega), fun p hp => ?_⟩
    have s5 := (s3.draw (.next (.next .here)) f5 b5).newT (xs := [.str (Str.ofString "marked"), .str k]) hp
    exact q p (.mk k) _ s5.fr ((s5.box (.tail _ (.tail _ (.head _)))).less (by omega)) (s5.tup (.head _)) ⟨hk1, by simp only [Tr.dep, if_true]; omega, Nat.le_trans (told_mk _ _) (by omega), Nat.le_trans (told_mk _ _) h1, h1⟩
  refine br_d (fun hw3 => ?_) (fun hw3 => br_d (fun hw4 => found hw4) (fun hw4 => ?_))
  · refine ⟨b, kl, sh, ks, n + 10 * m - 9, rfl, (s2.box (.tail _ (.head _))).less (by omega), hk.fr s2.fr, fun p t H' f b' hp g => ⟨szl (by simp only [List.length_cons, List.length_nil]; omega), fun p2 hp2 => ⟨szl (by simp only [List.length_cons, List.length_nil]; omega), fun p3 hp3 => ?_⟩⟩⟩
    have s5 := (((s2.draw (.next .here) f b').add (trF t p) hp).newT (xs := [.str (Str.ofString "found"), .ref p]) hp2).newT (xs := [.str (Str.ofString "not"), .ref p2]) hp3
    have g1 := g.2.2 ms
    have gd := g1.dep
    have gs := g1.st
    have gm := g1.tm
    simp only [Bool.false_eq_true, if_false] at gd
    exact q p3 (.one "not" (.one "found" t)) _ s5.fr ((s5.box (.tail _ (.head _))).less (by omega)) ⟨p2, s5.tup (.head _), p, s5.tup (.tail _ (.head _)), s5.f _ (.tail _ (.tail _ (.head _)))⟩ ⟨.inr ⟨rfl, .inl ⟨rfl, g1.wf⟩⟩, by simp only [Tr.dep, if_true]; omega, by simp only [Tr.told]; omega, by simp only [Tr.told]; omega, h1⟩
  have hm1 : 1 < m ∧ (w = "not" ∨ w = "and" ∨ w = "or" ∨ w = "xor" ∨ w = "same") := by
    rcases hw with ⟨_, h | h | h | h⟩ | ⟨h0, h | h | h | h | h | h⟩
    · exact absurd h hw4
    · exact absurd h hw2
    · exact absurd h hw3
    · exact absurd h hw1
    · exact ⟨h0, .inl h⟩
    · exact ⟨h0, .inr (.inl h)⟩
    · exact ⟨h0, .inr (.inr (.inl h))⟩
    · exact ⟨h0, .inr (.inr (.inr (.inl h)))⟩
    · exact absurd h hw4
    · exact ⟨h0, .inr (.inr (.inr (.inr h)))⟩
  obtain ⟨hm1, hws⟩ := hm1
  refine ⟨b, _, n + 10 * m - 5, rfl, by omega, by omega, (s2.box (.tail _ (.head _))).less (by omega), fun r H3 r0 r1 f3 b3 => ?_⟩
  have s3 := s2.draw (.next .here) f3 b3
  walk_at "di"
  obtain ⟨fr, hfr⟩ : ∃ fr : Nat, 1 + r = fr := ⟨(1 + r).toNat, by omega⟩
  rw [hfr]
  refine br_d (fun hw5 => ?_) (fun hw5 => ?_)
  · refine ⟨b, kl, ml, ks, ms, fr, n + 10 * (m - fr), sh, rfl, (s3.box (.tail _ (.head _))).less (by omega), hk.fr s3.fr, hm.fr s3.fr, by omega, by omega, by omega, fun p1 t1 H' f b' hp1 g1 => ?_⟩
    have s4 := (s3.draw (.next .here) f b').add (trF t1 p1) hp1
    walk_at "di"
    refine ⟨b, kl, ml, ks, ms, m - fr, n, sh, by rw [show ((m : Int) - fr) = ((m - fr : Nat) : Int) from by omega], (s4.box (.tail _ (.head _))).less (by omega), hk.fr s4.fr, hm.fr s4.fr, by omega, by omega, by omega, fun p2 t2 H'' f2 b2 hp2 g2 => ⟨szl (by simp only [List.length_cons, List.length_nil]; omega), fun p3 hp3 => ?_⟩⟩
    have s5 := ((s4.draw (.next .here) f2 b2).add (trF t2 p2) hp2).newT (xs := [.str (Str.ofString "same"), .ref p1, .ref p2]) hp3
    have g1d := g1.1.dep
    have g2d := g2.1.dep
    have := g1.1.st
    have := g2.1.st
    have := g1.1.tm
    have := g2.1.tm
    simp only [Bool.false_eq_true, if_false] at g1d g2d
    exact q p3 (.two "same" t1 t2) _ s5.fr (s5.box (.tail _ (.head _))) ⟨p1, p2, s5.tup (.head _), s5.f _ (.tail _ (.tail _ (.head _))), s5.f _ (.tail _ (.head _))⟩ ⟨.inl ⟨rfl, g1.1.wf, g2.1.wf⟩, by simp only [Tr.dep, if_true]; omega, by simp only [Tr.told, List.length_append]; omega, by simp only [Tr.told, List.length_append]; omega, h1⟩
  · refine ⟨b, kl, ml, ks, ms, fr, n + 10 * (m - fr) - 2, sh, rfl, (s3.box (.tail _ (.head _))).less (by omega), hk.fr s3.fr, hm.fr s3.fr, by omega, by omega, by omega, fun p1 t1 H' f b' hp1 g1 => ?_⟩
    have s4 := (s3.draw (.next .here) f b').add (trF t1 p1) hp1
    walk_at "di"
    refine ⟨b, kl, ml, ks, ms, m - fr, n, sh, by rw [show ((m : Int) - fr) = ((m - fr : Nat) : Int) from by omega], (s4.box (.tail _ (.head _))).less (by omega), hk.fr s4.fr, hm.fr s4.fr, by omega, by omega, by omega, fun p2 t2 H'' f2 b2 hp2 g2 => ?_⟩
    have s5 := (s4.draw (.next .here) f2 b2).add (trF t2 p2) hp2
    have g1d := g1.dep
    have g2d := g2.dep
    have := g1.st
    have := g2.st
    have := g1.tm
    have := g2.tm
    simp only [if_true] at g1d g2d
    refine br_d (fun hw6 => ?_) (fun hw6 => ?_)
    · refine ⟨szl (by simp only [List.length_cons, List.length_nil]; omega), fun p3 hp3 => ⟨szl (by simp only [List.length_cons, List.length_nil]; omega), fun p4 hp4 => ?_⟩⟩
      have s6 := (s5.newT (xs := [.str (Str.ofString "and"), .ref p1, .ref p2]) hp3).newT (xs := [.str (Str.ofString "not"), .ref p3]) hp4
      exact q p4 (.one "not" (.two "and" t1 t2)) _ s6.fr (s6.box (.tail _ (.head _))) ⟨p3, s6.tup (.head _), p1, p2, s6.tup (.tail _ (.head _)), s6.f _ (.tail _ (.tail _ (.tail _ (.head _)))), s6.f _ (.tail _ (.tail _ (.head _)))⟩ ⟨.inr ⟨rfl, .inr ⟨.inl rfl, g1.wf, g2.wf⟩⟩, by simp only [Tr.dep, if_true]; omega, by simp only [Tr.told, List.length_append]; omega, by simp only [Tr.told, List.length_append]; omega, h1⟩
    · refine ⟨szl (by simp only [List.length_cons, List.length_nil]; omega), fun p3 hp3 => ?_⟩
      have s6 := s5.newT (xs := [.str w, .ref p1, .ref p2]) hp3
      have hw7 : w = "and" ∨ w = "or" ∨ w = "xor" := by
        rcases hws with h | h | h | h | h
        · exact absurd h hw6
        · exact .inl h
        · exact .inr (.inl h)
        · exact .inr (.inr h)
        · exact absurd h hw5
      exact q p3 (.two w t1 t2) _ s6.fr (s6.box (.tail _ (.head _))) ⟨p1, p2, s6.tup (.head _), s6.f _ (.tail _ (.tail _ (.head _))), s6.f _ (.tail _ (.head _))⟩ ⟨.inr ⟨hw7, g1.wf, g2.wf⟩, by simp only [Tr.dep, if_true]; omega, by simp only [Tr.told, List.length_append]; omega, by simp only [Tr.told, List.length_append]; omega, h1⟩
def spMade (K : PySem.W.Frag) (C : Addr) (tst : Bool) (d : Nat) : Sp := fun vs H Q _ => ∃ (p : Addr) (t : Tr) (ks ms : List Str), vs = [.ref p] ∧ TrP K H t p ∧ t.wf ks ms tst ∧ (∀ k ∈ ks, Nm k) ∧ (∀ k ∈ ms, Nm k) ∧ t.dep ≤ d ∧ ∀ a H', Same H H' → LkP K H' C t a → Q (.ref a) H'
abbrev s_mlook : Stmt := topS 34
abbrev n_mlook : List Str := ["_law_tree", "_law_word", "_law_mine", "_law_its"]
theorem sc_mlook : FnScope n_mlook ["_law_tree"] (defScope s_mlook) := ⟨rfl, rfl, rfl, by decide +kernel, rfl, by decide +kernel, by decide +kernel⟩
theorem nm_mlook : nvB n_mlook (defScope s_mlook) 0 "_law_tree" = true ∧ nvB n_mlook (defScope s_mlook) 1 "_law_word" = true ∧ nvB n_mlook (defScope s_mlook) 2 "_law_mine" = true ∧ nvB n_mlook (defScope s_mlook) 3 "_law_its" = true ∧ lvB n_mlook (defScope s_mlook) 1 "_law_word" = true ∧ lvB n_mlook (defScope s_mlook) 2 "_law_mine" = true ∧ lvB n_mlook (defScope s_mlook) 3 "_law_its" = true ∧ gvB (defScope s_mlook) "_law_made_look" = true ∧ gvB (defScope s_mlook) "_law_made_test" = true ∧ gvB (defScope s_mlook) "here" = true ∧ gvB (defScope s_mlook) "step" = true := by decide +kernel
theorem cl_mlook {Γ : Gm} (dfn : Dfn Γ "_law_made_look" s_mlook ["_law_tree"]) (T : Names Γ) {d : Nat} {CL CT : Addr} (L : KF Γ "Look" CL) (c_here : Cl Γ CX0 3 "here" (spZ Γ.K CL "here") []) (c_step : Cl Γ CX0 3 "step" (spStep Γ.K CL) []) (c_step_1 : Cl Γ CX0 3 "step" (spStep Γ.K CL) [.int 1]) (c_law_made_look : Cl Γ CX0 (d + 3) "_law_made_look" (spMade Γ.K CL false d) []) (c_law_made_test : Cl Γ CX0 (d + 3) "_law_made_test" (spMade Γ.K CT true d) []) (m_when : Mt Γ CX0 3 CL "when" (spWith Γ.K CL CT CL "when") []) (m_then : Mt Γ CX0 3 CL "__rshift__" (spBin Γ.K CL "then") []) (m_or : Mt Γ CX0 3 CL "__or__" (spBin Γ.K CL "or") []) (m_and : Mt Γ CX0 3 CL "__and__" (spBin Γ.K CL "and") []) : Cl Γ CX0 (d + 4) "_law_made_look" (spMade Γ.K CL false (d + 1)) [] := by
  refine dfn.cl sc_mlook (fun vs H Q E h => ?_) (fun f cdv A outer s H vs Q E hg h => ?_)
  · obtain ⟨p, t, ks, ms, rfl, _⟩ := h
    rfl
  obtain ⟨p, t, ks, ms, rfl, hp, hw, hks, hms, hd, q⟩ := h
  have nd := sc_mlook.nd
  obtain ⟨v0, v1, v2, v3, l1, l2, l3, g__law_made_look, g__law_made_test, g_here, g_step⟩ := nm_mlook
  refine ⟨_, (pss_cons (pst (i := 1) nd l1 (pe_ix (WX.ok hg) (ps 0 v0) pe_int (fun _ _ => rfl)))
    (pss_cons (ps_ifB (pt_cm (k_eq hg) (ps 1 v1) pe_str (nomark _))
    (pss_one (ps_ret (pcl0 c_here hg (by omega) g_here pass0)))
    pss_nil)
    (pss_cons (ps_ifB (pt_cm (k_eq hg) (ps 1 v1) pe_str (nomark _))
    (pss_one (ps_ret (pe_ifB (pt_cm (k_gt hg) (pe_ix (WX.ok hg) (ps 0 v0) pe_int (fun _ _ => rfl)) pe_int (nomark _)) (pcl c_step_1 hg (by omega) g_step pass0 (pa_cons (pe_ix (WX.ok hg) (ps 0 v0) pe_int (fun _ _ => rfl)) pa_nil)) (pcl c_step hg (by omega) g_step pass0 (pa_cons (pe_ix (WX.ok hg) (ps 0 v0) pe_int (fun _ _ => rfl)) (pa_cons (pe_un (k_neg hg) pe_int) pa_nil))))))
    pss_nil)
    (pss_cons (pst (i := 2) nd l2 (pcl c_law_made_look hg (by omega) g__law_made_look pass0 (pa_cons (pe_ix (WX.ok hg) (ps 0 v0) pe_int (fun _ _ => rfl)) pa_nil)))
    (pss_cons (ps_ifB (pt_cm (k_eq hg) (ps 1 v1) pe_str (nomark _))
    (pss_one (ps_ret (pe_mw hg (ps 2 v2) (pa_cons (pcl c_law_made_test hg (by omega) g__law_made_test pass0 (pa_cons (pe_ix (WX.ok hg) (ps 0 v0) pe_int (fun _ _ => rfl)) pa_nil)) pa_nil))))
    pss_nil)
    (pss_cons (pst (i := 3) nd l3 (pcl c_law_made_look hg (by omega) g__law_made_look pass0 (pa_cons (pe_ix (WX.ok hg) (ps 0 v0) pe_int (fun _ _ => rfl)) pa_nil)))
    (pss_cons (ps_ifB (pt_cm (k_eq hg) (ps 1 v1) pe_str (nomark _))
    (pss_one (ps_ret (pe_op (WO.ok hg) (ps 2 v2) (ps 3 v3))))
    pss_nil)
    (pss_one (ps_ret (pe_ifB (pt_cm (k_eq hg) (ps 1 v1) pe_str (nomark _)) (pe_op (WO.ok hg) (ps 2 v2) (ps 3 v3)) (pe_op (WO.ok hg) (ps 2 v2) (ps 3 v3)))))))))))), ?_⟩
  refine st_start (σ := [some _, none, none, none]) rfl ?_
  walk_at "dn"
  cases t with
  | mk _ => exact hw.elim
  | one _ _ => exact hw.elim
  | z w =>
    obtain rfl : w = "here" := hw
    refine wx_t hp (v := .str "here") (atG (j := 0) rfl rfl) ?_
    walk_at "di"
    exact br_t rfl ⟨rfl, fun c H' s hc => q c H' s hc⟩
  | st k e =>
    refine wx_t hp (v := .str "step") (atG (j := 0) rfl rfl) ?_
    walk_at "di"
    refine br_f (by decide +kernel) (br_t rfl ?_)
    refine wx_t hp (v := .int e) (atG (j := 2) rfl rfl) ?_
    walk_at "di"
    refine br_d (fun h => ?_) (fun h => ?_)
    · obtain rfl : e = 1 := by rcases hw.2 with h2 | h2 <;> omega
      exact wx_t hp (v := .str k) (atG (j := 1) rfl rfl) ⟨k, 1, rfl, hks k hw.1, by omega, fun c H' s hc => q c H' s hc⟩
    · obtain rfl : e = -1 := by rcases hw.2 with h2 | h2 <;> omega
      exact wx_t hp (v := .str k) (atG (j := 1) rfl rfl) ⟨k, -1, rfl, hks k hw.1, by omega, fun c H' s hc => q c H' s hc⟩
  | two w a b =>
    obtain ⟨pa, pb, h, ha, hb⟩ := hp
    have hd' : max a.dep b.dep + 1 ≤ d + 1 := hd
    have e1 : PySem.dunder Operator.RShift.info.2 = "__rshift__" := by decide +kernel
    have e2 : PySem.dunder Operator.BitOr.info.2 = "__or__" := by decide +kernel
    have e3 : PySem.dunder Operator.BitAnd.info.2 = "__and__" := by decide +kernel
    refine wx_t h (v := .str w) (atG (j := 0) rfl rfl) ?_
    walk_at "di"
    have n1 : ¬ w = "here" := by rcases hw with ⟨rfl | rfl | rfl, _⟩ | ⟨rfl, _⟩ <;> decide +kernel
    have n2 : ¬ w = "step" := by rcases hw with ⟨rfl | rfl | rfl, _⟩ | ⟨rfl, _⟩ <;> decide +kernel
    have wa : a.wf ks ms false := by rcases hw with ⟨_, h, _⟩ | ⟨_, h, _⟩ <;> exact h
    refine br_f n1 (br_f n2 (wx_t h (v := .ref pa) (atG (j := 1) rfl rfl) ⟨pa, a, ks, ms, rfl, ha, wa, hks, hms, by omega, fun x H1 s1 hx1 => ?_⟩))
    have h' := (Fr.of (S := []) s1).sqt h List.not_mem_nil
    refine br_d (fun hwn => ?_) (fun hwn => ?_)
    · have wb : b.wf ks ms true := by
        rcases hw with ⟨h | h | h, _, _⟩ | ⟨_, _, h⟩
        · rw [hwn] at h; exact absurd h (by decide +kernel)
        · rw [hwn] at h; exact absurd h (by decide +kernel)
        · rw [hwn] at h; exact absurd h (by decide +kernel)
        · exact h
      obtain ⟨dx, px, ex, _⟩ := id hx1
      refine ⟨3, CL, x, dx, _, _, [], E0, ⟨m_when.ex⟩, by omega, rfl, ex, by rfl, ?_⟩
      refine wx_t h' (v := .ref pb) (atG (j := 2) rfl rfl) ⟨pb, b, ks, ms, rfl, hb.same s1, wb, hks, hms, by omega, fun y H2 s2 hy => ?_⟩
      exact ⟨x, y, a, b, rfl, hx1.same s2, hy, fun c H' s hc => q c H' ((s1.trans s2).trans s) (by rw [hwn]; exact hc)⟩
    · obtain ⟨hw3, wb⟩ : (w = "then" ∨ w = "or" ∨ w = "and") ∧ b.wf ks ms false := by
        rcases hw with ⟨h, _, h2⟩ | ⟨h, _, _⟩
        · exact ⟨h, h2⟩
        · exact absurd h hwn
      refine wx_t h' (v := .ref pb) (atG (j := 2) rfl rfl) ⟨pb, b, ks, ms, rfl, hb.same s1, wb, hks, hms, by omega, fun y H2 s2 hy => ?_⟩
      have hx2 := hx1.same s2
      obtain ⟨dx, px, ex, _⟩ := id hx2
      obtain ⟨dy, py, ey, _⟩ := id hy
      refine br_d (fun h1 => ?_) (fun h1 => br_d (fun h2 => ?_) (fun h2 => ?_))
      · exact wo_own (op := .RShift) (E := E0) (sp := spBin Γ.K CL "then") L.k (by rw [e1]; exact m_then) (by omega) ex ey ⟨x, y, a, b, rfl, hx2, hy, fun c H' s hc => q c H' ((s1.trans s2).trans s) (by rw [h1]; exact hc)⟩
      · exact wo_own (op := .BitOr) (E := E0) (sp := spBin Γ.K CL "or") L.k (by rw [e2]; exact m_or) (by omega) ex ey ⟨x, y, a, b, rfl, hx2, hy, fun c H' s hc => q c H' ((s1.trans s2).trans s) (by rw [h2]; exact hc)⟩
      · have h3 : w = "and" := by
          rcases hw3 with h | h | h
          · exact absurd h h1
          · exact absurd h h2
          · exact h
        exact wo_own (op := .BitAnd) (E := E0) (sp := spBin Γ.K CL "and") L.k (by rw [e3]; exact m_and) (by omega) ex ey ⟨x, y, a, b, rfl, hx2, hy, fun c H' s hc => q c H' ((s1.trans s2).trans s) (by rw [h3]; exact hc)⟩
abbrev s_mtest : Stmt := topS 35
abbrev n_mtest : List Str := ["_law_tree", "_law_word", "_law_mine", "_law_its"]
theorem sc_mtest : FnScope n_mtest ["_law_tree"] (defScope s_mtest) := ⟨rfl, rfl, rfl, by decide +kernel, rfl, by decide +kernel, by decide +kernel⟩
theorem nm_mtest : nvB n_mtest (defScope s_mtest) 0 "_law_tree" = true ∧ nvB n_mtest (defScope s_mtest) 1 "_law_word" = true ∧ nvB n_mtest (defScope s_mtest) 2 "_law_mine" = true ∧ nvB n_mtest (defScope s_mtest) 3 "_law_its" = true ∧ lvB n_mtest (defScope s_mtest) 1 "_law_word" = true ∧ lvB n_mtest (defScope s_mtest) 2 "_law_mine" = true ∧ lvB n_mtest (defScope s_mtest) 3 "_law_its" = true ∧ gvB (defScope s_mtest) "_law_made_look" = true ∧ gvB (defScope s_mtest) "_law_made_test" = true ∧ gvB (defScope s_mtest) "always" = true ∧ gvB (defScope s_mtest) "marked" = true := by decide +kernel
theorem cl_mtest {Γ : Gm} (dfn : Dfn Γ "_law_made_test" s_mtest ["_law_tree"]) (T : Names Γ) {d : Nat} {CL CT : Addr} (L : KF Γ "Test" CT) (c_always : Cl Γ CX0 3 "always" (spZ Γ.K CT "always") []) (c_marked : Cl Γ CX0 3 "marked" (spMarked Γ.K CT) []) (c_law_made_look : Cl Γ CX0 (d + 3) "_law_made_look" (spMade Γ.K CL false d) []) (c_law_made_test : Cl Γ CX0 (d + 3) "_law_made_test" (spMade Γ.K CT true d) []) (m_found : Mt Γ CX0 3 CL "found" (spUn Γ.K CL CT "found") []) (m_same : Mt Γ CX0 3 CL "same" (spWith Γ.K CL CL CT "same") []) (m_not : Mt Γ CX0 3 CT "__invert__" (spUn Γ.K CT CT "not") []) (m_and : Mt Γ CX0 3 CT "__and__" (spBin Γ.K CT "and") []) (m_or : Mt Γ CX0 3 CT "__or__" (spBin Γ.K CT "or") []) (m_xor : Mt Γ CX0 3 CT "__xor__" (spBin Γ.K CT "xor") []) : Cl Γ CX0 (d + 4) "_law_made_test" (spMade Γ.K CT true (d + 1)) [] := by
  refine dfn.cl sc_mtest (fun vs H Q E h => ?_) (fun f cdv A outer s H vs Q E hg h => ?_)
  · obtain ⟨p, t, ks, ms, rfl, _⟩ := h
    rfl
  obtain ⟨p, t, ks, ms, rfl, hp, hw, hks, hms, hd, q⟩ := h
  have nd := sc_mtest.nd
  obtain ⟨v0, v1, v2, v3, l1, l2, l3, g__law_made_look, g__law_made_test, g_always, g_marked⟩ := nm_mtest
  refine ⟨_, (pss_cons (pst (i := 1) nd l1 (pe_ix (WX.ok hg) (ps 0 v0) pe_int (fun _ _ => rfl)))
    (pss_cons (ps_ifB (pt_cm (k_eq hg) (ps 1 v1) pe_str (nomark _))
    (pss_one (ps_ret (pcl0 c_always hg (by omega) g_always pass0)))
    pss_nil)
    (pss_cons (ps_ifB (pt_cm (k_eq hg) (ps 1 v1) pe_str (nomark _))
    (pss_one (ps_ret (pcl c_marked hg (by omega) g_marked pass0 (pa_cons (pe_ix (WX.ok hg) (ps 0 v0) pe_int (fun _ _ => rfl)) pa_nil))))
    pss_nil)
    (pss_cons (ps_ifB (pt_cm (k_eq hg) (ps 1 v1) pe_str (nomark _))
    (pss_one (ps_ret (pe_mw0 hg (pcl c_law_made_look hg (by omega) g__law_made_look pass0 (pa_cons (pe_ix (WX.ok hg) (ps 0 v0) pe_int (fun _ _ => rfl)) pa_nil)))))
    pss_nil)
    (pss_cons (ps_ifB (pt_cm (k_eq hg) (ps 1 v1) pe_str (nomark _))
    (pss_one (ps_ret (pe_mw hg (pcl c_law_made_look hg (by omega) g__law_made_look pass0 (pa_cons (pe_ix (WX.ok hg) (ps 0 v0) pe_int (fun _ _ => rfl)) pa_nil)) (pa_cons (pcl c_law_made_look hg (by omega) g__law_made_look pass0 (pa_cons (pe_ix (WX.ok hg) (ps 0 v0) pe_int (fun _ _ => rfl)) pa_nil)) pa_nil))))
    pss_nil)
    (pss_cons (pst (i := 2) nd l2 (pcl c_law_made_test hg (by omega) g__law_made_test pass0 (pa_cons (pe_ix (WX.ok hg) (ps 0 v0) pe_int (fun _ _ => rfl)) pa_nil)))
    (pss_cons (ps_ifB (pt_cm (k_eq hg) (ps 1 v1) pe_str (nomark _))
    (pss_one (ps_ret (pe_un (WU.ok hg) (ps 2 v2))))
    pss_nil)
    (pss_cons (pst (i := 3) nd l3 (pcl c_law_made_test hg (by omega) g__law_made_test pass0 (pa_cons (pe_ix (WX.ok hg) (ps 0 v0) pe_int (fun _ _ => rfl)) pa_nil)))
    (pss_cons (ps_ifB (pt_cm (k_eq hg) (ps 1 v1) pe_str (nomark _))
    (pss_one (ps_ret (pe_op (WO.ok hg) (ps 2 v2) (ps 3 v3))))
    pss_nil)
    (pss_one (ps_ret (pe_ifB (pt_cm (k_eq hg) (ps 1 v1) pe_str (nomark _)) (pe_op (WO.ok hg) (ps 2 v2) (ps 3 v3)) (pe_op (WO.ok hg) (ps 2 v2) (ps 3 v3)))))))))))))), ?_⟩
  refine st_start (σ := [some _, none, none, none]) rfl ?_
  walk_at "dn"
  obtain ⟨r, hx, hr, _⟩ := hp.rest
  refine wx_t hx (v := .str t.word) (atG (j := 0) rfl rfl) ?_
  walk_at "di"
  cases t with
  | st _ _ => exact hw.elim
  | z w =>
    obtain rfl : w = "always" := hw
    exact br_t rfl ⟨rfl, fun c H' s hc => q c H' s hc⟩
  | mk k =>
    refine br_f (show ¬ Str.ofString "marked" = Str.ofString "always" by decide +kernel) (br_t rfl ?_)
    exact wx_t hp (v := .str k) (atG (j := 1) rfl rfl) ⟨k, rfl, hms k hw, fun c H' s hc => q c H' s hc⟩
  | one w a =>
    obtain ⟨pa, h, ha⟩ := hp
    have hd' : a.dep + 1 ≤ d + 1 := hd
    rcases hw with ⟨rfl, wa⟩ | ⟨rfl, wa⟩
    · refine br_f (show ¬ Str.ofString "found" = Str.ofString "always" by decide +kernel) (br_f (show ¬ Str.ofString "found" = Str.ofString "marked" by decide +kernel) (br_t rfl (wx_t h (v := .ref pa) (atG (j := 1) rfl rfl) ⟨pa, a, ks, ms, rfl, ha, wa, hks, hms, by omega, fun x H1 s1 hx1 => ?_⟩)))
      obtain ⟨dx, px, ex, _⟩ := id hx1
      exact ⟨3, CL, x, dx, _, spUn Γ.K CL CT "found", [], E0, ⟨m_found.ex⟩, by omega, rfl, ex, by rfl, x, a, rfl, hx1, fun c H' s hc => q c H' (s1.trans s) hc⟩
    · refine br_f (show ¬ Str.ofString "not" = Str.ofString "always" by decide +kernel) (br_f (show ¬ Str.ofString "not" = Str.ofString "marked" by decide +kernel) (br_f (show ¬ Str.ofString "not" = Str.ofString "found" by decide +kernel) (br_f (show ¬ Str.ofString "not" = Str.ofString "same" by decide +kernel) (wx_t h (v := .ref pa) (atG (j := 1) rfl rfl) ⟨pa, a, ks, ms, rfl, ha, wa, hks, hms, by omega, fun x H1 s1 hx1 => ?_⟩))))
      obtain ⟨dx, px, ex, _⟩ := id hx1
      refine br_t rfl ?_
      exact wu_invO (E := E0) (sp := spUn Γ.K CT CT "not") m_not (by omega) ex ⟨x, a, rfl, hx1, fun c H' s hc => q c H' (s1.trans s) hc⟩
  | two w a b =>
    obtain ⟨pa, pb, h, ha, hb⟩ := hp
    have hd' : max a.dep b.dep + 1 ≤ d + 1 := hd
    have e1 : PySem.dunder Operator.BitXor.info.2 = "__xor__" := by decide +kernel
    have e2 : PySem.dunder Operator.BitOr.info.2 = "__or__" := by decide +kernel
    have e3 : PySem.dunder Operator.BitAnd.info.2 = "__and__" := by decide +kernel
    have n1 : ¬ w = "always" := by rcases hw with ⟨rfl, _⟩ | ⟨rfl | rfl | rfl, _⟩ <;> decide +kernel
    have n2 : ¬ w = "marked" := by rcases hw with ⟨rfl, _⟩ | ⟨rfl | rfl | rfl, _⟩ <;> decide +kernel
    have n3 : ¬ w = "found" := by rcases hw with ⟨rfl, _⟩ | ⟨rfl | rfl | rfl, _⟩ <;> decide +kernel
    have n4 : ¬ w = "not" := by rcases hw with ⟨rfl, _⟩ | ⟨rfl | rfl | rfl, _⟩ <;> decide +kernel
    refine br_f n1 (br_f n2 (br_f n3 (br_d (p := w = Str.ofString "same") (fun hs => ?_) (fun hs => ?_))))
    · obtain ⟨wa, wb⟩ : a.wf ks ms false ∧ b.wf ks ms false := by
        rcases hw with ⟨_, h1, h2⟩ | ⟨h | h | h, _, _⟩
        · exact ⟨h1, h2⟩
        · rw [hs] at h; exact absurd h (by decide +kernel)
        · rw [hs] at h; exact absurd h (by decide +kernel)
        · rw [hs] at h; exact absurd h (by decide +kernel)
      refine wx_t h (v := .ref pa) (atG (j := 1) rfl rfl) ⟨pa, a, ks, ms, rfl, ha, wa, hks, hms, by omega, fun x H1 s1 hx1 => ?_⟩
      have h' := (Fr.of (S := []) s1).sqt h List.not_mem_nil
      obtain ⟨dx, px, ex, _⟩ := id hx1
      refine ⟨3, CL, x, dx, _, spWith Γ.K CL CL CT "same", [], E0, ⟨m_same.ex⟩, by omega, rfl, ex, by rfl, ?_⟩
      refine wx_t h' (v := .ref pb) (atG (j := 2) rfl rfl) ⟨pb, b, ks, ms, rfl, hb.same s1, wb, hks, hms, by omega, fun y H2 s2 hy => ?_⟩
      exact ⟨x, y, a, b, rfl, hx1.same s2, hy, fun c H' s hc => q c H' ((s1.trans s2).trans s) (by rw [hs]; exact hc)⟩
    · obtain ⟨hw3, wa, wb⟩ : (w = "and" ∨ w = "or" ∨ w = "xor") ∧ a.wf ks ms true ∧ b.wf ks ms true := by
        rcases hw with ⟨h, _, _⟩ | h
        · exact absurd h hs
        · exact h
      refine wx_t h (v := .ref pa) (atG (j := 1) rfl rfl) ⟨pa, a, ks, ms, rfl, ha, wa, hks, hms, by omega, fun x H1 s1 hx1 => br_f n4 ?_⟩
      have h' := (Fr.of (S := []) s1).sqt h List.not_mem_nil
      refine wx_t h' (v := .ref pb) (atG (j := 2) rfl rfl) ⟨pb, b, ks, ms, rfl, hb.same s1, wb, hks, hms, by omega, fun y H2 s2 hy => ?_⟩
      have hx2 := hx1.same s2
      obtain ⟨dx, px, ex, _⟩ := id hx2
      obtain ⟨dy, py, ey, _⟩ := id hy
      refine br_d (p := w = Str.ofString "and") (fun h1 => ?_) (fun h1 => br_d (p := w = Str.ofString "or") (fun h2 => ?_) (fun h2 => ?_))
      · exact wo_own (op := .BitAnd) (E := E0) (sp := spBin Γ.K CT "and") L.k (by rw [e3]; exact m_and) (by omega) ex ey ⟨x, y, a, b, rfl, hx2, hy, fun c H' s hc => q c H' ((s1.trans s2).trans s) (by rw [h1]; exact hc)⟩
      · exact wo_own (op := .BitOr) (E := E0) (sp := spBin Γ.K CT "or") L.k (by rw [e2]; exact m_or) (by omega) ex ey ⟨x, y, a, b, rfl, hx2, hy, fun c H' s hc => q c H' ((s1.trans s2).trans s) (by rw [h2]; exact hc)⟩
      · have h3 : w = "xor" := by
          rcases hw3 with h | h | h
          · exact absurd h h1
          · exact absurd h h2
          · exact h
        exact wo_own (op := .BitXor) (E := E0) (sp := spBin Γ.K CT "xor") L.k (by rw [e1]; exact m_xor) (by omega) ex ey ⟨x, y, a, b, rfl, hx2, hy, fun c H' s hc => q c H' ((s1.trans s2).trans s) (by rw [h3]; exact hc)⟩
theorem br_x {b : Bool} {A B : Prop} (e : b = true) (h : A) : br b A B := by rw [e]; exact h
theorem br_y {b : Bool} {A B : Prop} (e : b = false) (h : B) : br b A B := by rw [e]; exact h
def spToldL (K : PySem.W.Frag) (d : Nat) : Sp := fun vs H Q _ => ∃ (p : Addr) (t : Tr) (w : Str), vs = [.ref p, .str w] ∧ (w = "step" ∨ w = "marked") ∧ t.ok ∧ TrP K H t p ∧ t.dep ≤ d ∧ (t.told w).length < 64 ∧
  ∀ l H', H l = none → Same H H' → H' l = some (.lst ((t.told w).map V.str)) → Q (.ref l) H'
abbrev s_grouped : Stmt := topS 36
abbrev n_grouped : List Str := ["_law_tree", "_law_many", "_law_made", "_law_turn"]
theorem sc_grouped : FnScope n_grouped ["_law_tree", "_law_many"] (defScope s_grouped) := ⟨rfl, rfl, rfl, by decide +kernel, rfl, by decide +kernel, by decide +kernel⟩
theorem nm_grouped : nvB n_grouped (defScope s_grouped) 0 "_law_tree" = true ∧ nvB n_grouped (defScope s_grouped) 1 "_law_many" = true ∧ nvB n_grouped (defScope s_grouped) 2 "_law_made" = true ∧ lvB n_grouped (defScope s_grouped) 2 "_law_made" = true ∧ lvB n_grouped (defScope s_grouped) 3 "_law_turn" = true ∧ gvB (defScope s_grouped) "range" = true := by decide +kernel
theorem cl_grouped {Γ : Gm} (dfn : Dfn Γ "_law_grouped" s_grouped ["_law_tree", "_law_many"]) (T : Names Γ) : Cl Γ CX0 (1) "_law_grouped" (spRep Γ.K) [] := by
  refine dfn.cl sc_grouped (fun vs H Q E h => ?_) (fun f cdv A outer s H vs Q E hg h => ?_)
  · obtain ⟨i, t, n, rfl, _⟩ := h
    rfl
  obtain ⟨p, t, n, rfl, hp, hn, q⟩ := h
  have nd := sc_grouped.nd
  obtain ⟨v0, v1, v2, l2, l3, g_range⟩ := nm_grouped
  refine ⟨_, (pss_cons (pst (i := 2) nd l2 (ps 0 v0))
    (pss_cons (ps_for PassesOwn.never rfl (pi_r1 g_range T.n_range (pa_cons (pe_op (k_sub hg) (ps 1 v1) pe_int) pa_nil)) (pgn (i := 3) nd l3)
    (pss_one (pst (i := 2) nd l2 (pe_tup (pa_cons pe_str (pa_cons (ps 2 v2) (pa_cons (ps 0 v0) pa_nil)))))))
    (pss_one (ps_ret (pe_ifB (pt_cm (k_gt hg) (ps 1 v1) pe_int (nomark _)) (ps 2 v2) (pe_tup (pa_cons pe_str pa_nil))))))), ?_⟩
  refine st_start (σ := [some _, some _, none, none]) rfl ?_
  walk_at "dn"
  refine ⟨_, rfl, by omega, by omega, ?_⟩
  refine lp_range (fun i σ H' => ∃ (p' : Addr) (a : Option V), σ = [some (.ref p), some (.int n), some (.ref p'), a] ∧ Same H H' ∧ TrP Γ.K H' (t.grp (i + 1)) p') ⟨p, none, rfl, Same.refl _, hp⟩ ?_ ?_
  · rintro i σ H1 hi ⟨p', a, rfl, s1, h1⟩
    walk_at "dn"
    exact ⟨szl (by simp only [List.length_cons, List.length_nil]; omega), fun p2 hp2 => ⟨p2, _, rfl, s1.trans (Same.mk hp2), p', p, SqT.of upd_same, h1.same (Same.mk hp2), (hp.same s1).same (Same.mk hp2)⟩⟩
  · rintro σ H1 ⟨p', a, rfl, s1, h1⟩
    walk_at "dn"
    refine br_d (fun h => ?_) (fun h => ?_)
    · exact q p' H1 s1 (by rw [show ((n : Int) - 1).toNat + 1 = n from by omega] at h1; exact h1)
    · obtain rfl : n = 0 := by omega
      exact ⟨szl (by simp only [List.length_cons, List.length_nil]; omega), fun p2 hp2 => q p2 _ (s1.trans (Same.mk hp2)) (SqT.of upd_same)⟩
abbrev s_turned : Stmt := topS 37
abbrev n_turned : List Str := ["_law_tree"]
theorem sc_turned : FnScope n_turned ["_law_tree"] (defScope s_turned) := ⟨rfl, rfl, rfl, by decide +kernel, rfl, by decide +kernel, by decide +kernel⟩
theorem nm_turned : nvB n_turned (defScope s_turned) 0 "_law_tree" = true ∧ gvB (defScope s_turned) "_law_turned" = true := by decide +kernel
theorem cl_turned {Γ : Gm} (dfn : Dfn Γ "_law_turned" s_turned ["_law_tree"]) (T : Names Γ) {d : Nat} (c_law_turned : Cl Γ CX0 (d + 1) "_law_turned" (spBackOf Γ.K d) []) : Cl Γ CX0 (d + 2) "_law_turned" (spBackOf Γ.K (d + 1)) [] := by
  refine dfn.cl sc_turned (fun vs H Q E h => ?_) (fun f cdv A outer s H vs Q E hg h => ?_)
  · obtain ⟨i, t, rfl, _⟩ := h
    rfl
  obtain ⟨p, t, rfl, hp, hw, hd, q⟩ := h
  have nd := sc_turned.nd
  obtain ⟨v0, g__law_turned⟩ := nm_turned
  refine ⟨_, (pss_cons (ps_ifB (pt_cm (k_eq hg) (pe_ix (WX.ok hg) (ps 0 v0) pe_int (fun _ _ => rfl)) pe_str (nomark _))
    (pss_one (ps_ret (pe_tup (pa_cons pe_str (pa_cons (pcl c_law_turned hg (by omega) g__law_turned pass0 (pa_cons (pe_ix (WX.ok hg) (ps 0 v0) pe_int (fun _ _ => rfl)) pa_nil)) (pa_cons (pcl c_law_turned hg (by omega) g__law_turned pass0 (pa_cons (pe_ix (WX.ok hg) (ps 0 v0) pe_int (fun _ _ => rfl)) pa_nil)) pa_nil))))))
    pss_nil)
    (pss_one (ps_ret (pe_ifB (pt_cm (k_eq hg) (pe_ix (WX.ok hg) (ps 0 v0) pe_int (fun _ _ => rfl)) pe_str (nomark _)) (pe_tup (pa_cons pe_str (pa_cons (pe_ix (WX.ok hg) (ps 0 v0) pe_int (fun _ _ => rfl)) (pa_cons (pe_un (k_neg hg) (pe_ix (WX.ok hg) (ps 0 v0) pe_int (fun _ _ => rfl))) pa_nil)))) (ps 0 v0))))), ?_⟩
  refine st_start (σ := [some _]) rfl ?_
  walk_at "dn"
  cases t with
  | mk _ => exact hw.elim
  | one _ _ => exact hw.elim
  | z w =>
    obtain rfl : w = "here" := hw
    refine wx_t hp (v := .str "here") (atG (j := 0) rfl rfl) ?_
    walk_at "di"
    refine br_f (by decide +kernel) ?_
    refine wx_t hp (v := .str "here") (atG (j := 0) rfl rfl) ?_
    walk_at "di"
    refine br_f (by decide +kernel) ?_
    exact q p H (Same.refl _) hp
  | st k e =>
    refine wx_t hp (v := .str "step") (atG (j := 0) rfl rfl) ?_
    walk_at "di"
    refine br_f (by decide +kernel) ?_
    refine wx_t hp (v := .str "step") (atG (j := 0) rfl rfl) ?_
    walk_at "di"
    refine br_t rfl ?_
    refine wx_t hp (v := .str k) (atG (j := 1) rfl rfl) ?_
    refine wx_t hp (v := .int e) (atG (j := 2) rfl rfl) ?_
    walk_at "di"
    exact ⟨szl (by simp only [List.length_cons, List.length_nil]; omega), fun p' hp' => q p' _ (Same.mk hp') (SqT.of upd_same)⟩
  | two w a b =>
    obtain ⟨rfl, wa, wb⟩ := hw
    obtain ⟨q1, r1, h, ha, hb⟩ := hp
    have hd' : max a.dep b.dep + 1 ≤ d + 1 := hd
    refine wx_t h (v := .str "then") (atG (j := 0) rfl rfl) ?_
    walk_at "di"
    refine br_t rfl ?_
    refine wx_t h (v := .ref r1) (atG (j := 2) rfl rfl) ?_
    refine ⟨r1, b, rfl, hb, wb, by omega, fun u H1 s1 hu => ?_⟩
    refine wx_t ((Fr.of (S := []) s1).sqt h List.not_mem_nil) (v := .ref q1) (atG (j := 1) rfl rfl) ?_
    refine ⟨q1, a, rfl, ha.same s1, wa, by omega, fun v H2 s2 hv => ?_⟩
    exact ⟨szl (by simp only [List.length_cons, List.length_nil]; omega), fun p' hp' => q p' _ ((s1.trans s2).trans (Same.mk hp')) ⟨u, v, SqT.of upd_same, (hu.same s2).same (Same.mk hp'), hv.same (Same.mk hp')⟩⟩
abbrev s_told : Stmt := topS 38
abbrev n_told : List Str := ["_law_tree", "_law_word", "_law_found", "_law_part"]
theorem sc_told : FnScope n_told ["_law_tree", "_law_word"] (defScope s_told) := ⟨rfl, rfl, rfl, by decide +kernel, rfl, by decide +kernel, by decide +kernel⟩
theorem nm_told : nvB n_told (defScope s_told) 0 "_law_tree" = true ∧ nvB n_told (defScope s_told) 1 "_law_word" = true ∧ nvB n_told (defScope s_told) 2 "_law_found" = true ∧ nvB n_told (defScope s_told) 3 "_law_part" = true ∧ lvB n_told (defScope s_told) 2 "_law_found" = true ∧ lvB n_told (defScope s_told) 3 "_law_part" = true ∧ gvB (defScope s_told) "_law_told" = true ∧ gvB (defScope s_told) "isinstance" = true ∧ gvB (defScope s_told) "tuple" = true := by decide +kernel
theorem cl_told {Γ : Gm} (dfn : Dfn Γ "_law_told" s_told ["_law_tree", "_law_word"]) (T : Names Γ) {d : Nat} (c_law_told : Cl Γ CX0 (d + 1) "_law_told" (spToldL Γ.K d) []) : Cl Γ CX0 (d + 2) "_law_told" (spToldL Γ.K (d + 1)) [] := by
  refine dfn.cl sc_told (fun vs H Q E h => ?_) (fun f cdv A outer s H vs Q E hg h => ?_)
  · obtain ⟨i, t, w, rfl, _⟩ := h
    rfl
  obtain ⟨p, t, w, rfl, hw, ok, hp, hd, ht, q⟩ := h
  have nd := sc_told.nd
  obtain ⟨v0, v1, v2, v3, l2, l3, g__law_told, g_isinstance, g_tuple⟩ := nm_told
  refine ⟨_, (C8.pss_cut (pst (i := 2) nd l2 (pe_ifB (pt_cm (k_eq hg) (pe_ix (WX.ok hg) (ps 0 v0) pe_int (fun _ _ => rfl)) (ps 1 v1) (nomark _)) (pe_lst (pa_cons (pe_ix (WX.ok hg) (ps 0 v0) pe_int (fun _ _ => rfl)) pa_nil)) (pe_lst pa_nil)))
    (pss_cons (ps_for PassesOwn.never rfl (pi_t hg (pe_slice (WL.ok hg) (ps 0 v0) (po_pt pe_int) po_none)) (pgn (i := 3) nd l3)
    (pss_one (pst (i := 2) nd l2 (pe_op (k_add hg) (ps 2 v2) (pe_ifB (pt_tr hg (pcb (WC.ok hg) g_isinstance T.n_isinstance bt_isinstance (pa_cons (ps 3 v3) (pa_cons (pe_bltn (v := .ty "tuple") (gv_of g_tuple).1 T.n_tuple bt_tuple rfl) pa_nil)))) (pcl c_law_told hg (by omega) g__law_told pass0 (pa_cons (ps 3 v3) (pa_cons (ps 1 v1) pa_nil))) (pe_lst pa_nil))))))
    (pss_one (ps_ret (ps 2 v2))))), ?_⟩
  refine st_start (σ := [some _, some _, none, none]) rfl ?_
  walk_at "dn"
  obtain ⟨r, hx, hr, hr5⟩ := hp.rest
  refine ⟨fun σ' H1 => ∃ f0, σ' = [some (.ref p), some (.str w), some (.ref f0), none] ∧ H f0 = none ∧ Same H H1 ∧ H1 f0 = some (.lst ((t.top w).map V.str)), ?_, ?_⟩
  · refine wx_t hx (v := .str t.word) (atG (j := 0) rfl rfl) ?_
    walk_at "di"
    refine br_d (fun h => ?_) (fun h => ?_)
    · obtain ⟨k, ⟨xs, hxs, hk1⟩, htop⟩ := Tr.top_hit hw ok hp h
      exact wx_t hxs (v := .str k) (atG (j := 1) rfl hk1) ⟨szl (by simp only [List.length_cons, List.length_nil]; omega), fun f0 hf0 => ⟨f0, rfl, hf0, Same.mk hf0, by rw [htop]; exact upd_same⟩⟩
    · exact ⟨szl (by simp only [List.length_nil]; omega), fun f0 hf0 => ⟨f0, rfl, hf0, Same.mk hf0, by rw [Tr.top_miss hw ok h]; exact upd_same⟩⟩
  rintro σ' H1 ⟨f0, rfl, hf0, s1, h1⟩
  walk_at "di"
  refine wl_tl (x := .str t.word) ((Fr.of (S := []) s1).sqt hx List.not_mem_nil) fun p2 hp2 => ⟨p2, rfl, ⟨_, SqT.of upd_same⟩, ?_⟩
  refine lp_tup (xs := r) (fun i σ H' => ∃ (fa : Addr) (a : Option V), σ = [some (.ref p), some (.str w), some (.ref fa), a] ∧ H fa = none ∧ Same (upd H1 p2 (.tup r)) H' ∧ H' fa = some (.lst ((t.toldN w ((r.take i).countP isRef)).map V.str)))
    ⟨f0, none, rfl, hf0, Same.refl _, by rw [List.take_zero, List.countP_nil, Tr.toldN_0]; exact Same.mk hp2 _ _ h1⟩ (fun i σ H' hi ⟨_, _, _, _, s, _⟩ => SqT.of (s _ _ upd_same)) ?_ ?_
  · rintro i x σ H2 hi ⟨fa, a, rfl, hfa, s2, h2⟩
    have ss := (s1.trans (Same.mk hp2)).trans s2
    have hle := t.toldN_le w ((r.take i).countP isRef)
    walk_at "dn"
    have skip : isRef x = false → 
        ([] : List V).length ≤ sizeLine ∧ ∀ pe, H2 pe = none → WO (Γ.at (d + 1)) (binaryOp .Add) (.ref fa) (.ref pe) (upd H2 pe (.lst [])) fun v H3 => ∃ (fb : Addr) (a : Option V), [some (V.ref p), some (V.str w), some v, some x] = [some (.ref p), some (.str w), some (.ref fb), a] ∧ H fb = none ∧ Same (upd H1 p2 (.tup r)) H3 ∧ H3 fb = some (.lst ((t.toldN w ((r.take (i + 1)).countP isRef)).map V.str)) := by
      intro e0
      refine ⟨szl (by simp only [List.length_nil]; omega), fun pe hpe => wo_cat (Same.mk hpe _ _ h2) upd_same (szl (by simp only [List.length_map, List.length_nil]; omega)) fun pc hpc => ⟨pc, _, rfl, ss.free ((Same.mk hpe).free hpc), (s2.trans (Same.mk hpe)).trans (Same.mk hpc), ?_⟩⟩
      rw [take_cnt hi, e0]
      simp [upd_same]
    rcases hr.at2 hi with h | ⟨p3, t3, rfl, h3, ht3⟩
    · rcases h with ⟨z, rfl⟩ | ⟨j, rfl⟩
      · refine wc_isi (.ty "tuple") (.base (.str _)) (kit_ty (r := false) (by decide +kernel)) ?_
        walk_at "di"
        exact skip rfl
      · refine wc_isi (.ty "tuple") (.base (.int _)) (kit_ty (r := false) (by decide +kernel)) ?_
        walk_at "di"
        exact skip rfl
    · obtain ⟨r3, h4, _, _⟩ := h3.rest
      refine wc_isi (.ty "tuple") (sqt_ty ((Fr.of (S := []) ss).sqt h4 List.not_mem_nil)) (kit_ty (r := true) (by decide +kernel)) ?_
      walk_at "di"
      have hmem : t3 ∈ t.subs := List.mem_of_getElem? ht3
      have hdep := Tr.subs_dep hmem
      have hs := Tr.toldN_s (w := w) ht3
      have hle2 := t.toldN_le w ((r.take i).countP isRef + 1)
      rw [hs, List.length_append] at hle2
      refine ⟨p3, t3, w, rfl, hw, Tr.subs_ok ok hmem, h3.same ss, by omega, by omega, fun l H3 hl s3 h3l => ?_⟩
      refine wo_cat (s3 _ _ h2) h3l (szl (by simp only [List.length_map]; omega)) fun pc hpc => ⟨pc, _, rfl, ss.free (s3.free hpc), (s2.trans s3).trans (Same.mk hpc), ?_⟩
      rw [take_cnt hi]
      simp only [isRef, if_true]
      rw [hs, List.map_append]
      exact upd_same
  · rintro σ H2 ⟨fa, a, rfl, hfa, s2, h2⟩
    walk_at "dn"
    rw [List.take_length, hr.cnt, Tr.toldN_all] at h2
    exact q fa H2 hfa ((s1.trans (Same.mk hp2)).trans s2) h2
structure KC (Γ : Gm) (x : Str) (C : Addr) (d : Nat) : Prop where
  f : KF Γ x C
  tree : Pr Γ CX0 1 C "tree" (spTree Γ.K C)
  kinds : Pr Γ CX0 (d + 2) C "kinds" (spTold Γ.K C "step" d)
  marks : Pr Γ CX0 (d + 2) C "marks" (spTold Γ.K C "marked" d)
  steps : Pr Γ CX0 (d + 2) C "steps" (spStepsC Γ.K C d)
def spShown (Γ : Gm) (d : Nat) : Sp := fun vs H Q _ => ∃ (x : Str) (C a p : Addr) (t : Tr), vs = [.ref a, .ref p] ∧ KC Γ x C d ∧ LkP Γ.K H C t a ∧ TrP Γ.K H t p ∧ t.ok ∧ t.dep ≤ d ∧ (t.told "step").length < 64 ∧ (t.told "marked").length < 64 ∧ ∀ H', Same H H' → Q (.bl true) H'
structure Due (t : Tr) (w : Str) (zs : List Str) : Prop where
  nd : zs.Nodup
  pw : zs.Pairwise leS
  mem : ∀ z, z ∈ zs ↔ z ∈ t.told w
def dueW : Nat → Str
  | 0 => "step"
  | _ => "marked"
abbrev s_shown : Stmt := topS 39
abbrev n_shown : List Str := ["_law_own", "_law_tree", "_law_kinds_so", "_law_names_so", "_law_due", "_law_good", "_law_all_so", "_law_k", "_law_one"]
theorem sc_shown : FnScope n_shown ["_law_own", "_law_tree"] (defScope s_shown) := ⟨rfl, rfl, rfl, by decide +kernel, rfl, by decide +kernel, by decide +kernel⟩
theorem nm_shown : nvB n_shown (defScope s_shown) 0 "_law_own" = true ∧ nvB n_shown (defScope s_shown) 1 "_law_tree" = true ∧ nvB n_shown (defScope s_shown) 2 "_law_kinds_so" = true ∧ nvB n_shown (defScope s_shown) 3 "_law_names_so" = true ∧ nvB n_shown (defScope s_shown) 4 "_law_due" = true ∧ nvB n_shown (defScope s_shown) 5 "_law_good" = true ∧ lvB n_shown (defScope s_shown) 5 "_law_good" = true ∧ gvB (defScope s_shown) "_law_told" = true ∧ gvB (defScope s_shown) "bool" = true ∧ gvB (defScope s_shown) "isinstance" = true ∧ gvB (defScope s_shown) "len" = true ∧ gvB (defScope s_shown) "tuple" = true := by decide +kernel
theorem cl_shown {Γ : Gm} (dfn : Dfn Γ "_law_shown" s_shown ["_law_own", "_law_tree"]) (T : Names Γ) {d : Nat} (hd60 : d ≤ 60) (c_law_told : Cl Γ CX0 (d + 1) "_law_told" (spToldL Γ.K d) []) : Cl Γ CX0 (d + 4) "_law_shown" (spShown Γ d) [] := by
  refine dfn.cl sc_shown (fun vs H Q E h => ?_) (fun f cdv A outer s H vs Q E hg h => ?_)
  · obtain ⟨x, C, a, p, t, rfl, _⟩ := h
    rfl
  obtain ⟨x, C, a, p, t, rfl, KC, ha, hp, ok, hd, hs, hm, q⟩ := h
  have nd := sc_shown.nd
  obtain ⟨v0, v1, v2, v3, v4, v5, l5, g__law_told, g_bool, g_isinstance, g_len, g_tuple⟩ := nm_shown
  refine ⟨_, (C8.pss_cut (ps_p2 (i := 2) (j := 3) rfl nd rfl rfl (by decide) rfl rfl (pa_cons (pcl c_law_told hg (by omega) g__law_told pass0 (pa_cons (ps 1 v1) (pa_cons pe_str pa_nil))) (pa_cons (pcl c_law_told hg (by omega) g__law_told pass0 (pa_cons (ps 1 v1) (pa_cons pe_str pa_nil))) pa_nil)) (by rfl))
    (C8.pss_cut (ps_setLc (i := 4) (own := [("_law_all_so", 6)]) rfl nd rfl rfl (sw_true rfl rfl rfl (by decide +kernel)) (pi_l hg (pe_lst (pa_cons (ps 2 v2) (pa_cons (ps 3 v3) pa_nil)))) (blkOk_by (N := n_shown) (sc := defScope s_shown) (by decide +kernel)) (fun _ _ _ _ _ => (pg_name (i := 6) nd rfl (by first | exact .inl rfl | exact .inr rfl))) (fun _ _ _ _ _ => pts_nil) (fun _ _ _ _ _ => (pct (WC.ok hg.blk) (by rfl) T.n_tuple bt_tuple (pa_cons (pe_lc (own := [("_law_k", 7), ("_law_one", 8)]) rfl nd (pi_en hg.blk (by rfl) T.n_enumerate (pa_cons (pcb (WC.ok hg.blk) (by rfl) T.n_sorted bt_sorted (pa_cons (psr 6) pa_nil)) pa_nil)) (blkIn (N := n_shown) (S := defScope s_shown) rfl rfl (by decide +kernel)) (fun _ _ _ _ _ => (pg_tK hg.blk.blk 2 rfl (pgs_c (pg_name (i := 7) nd rfl (by first | exact .inl rfl | exact .inr rfl)) (pgs_c (pg_name (i := 8) nd rfl (by first | exact .inl rfl | exact .inr rfl)) pgs_0)))) (fun _ _ _ _ _ => (pts_one (pt_cm (WO.ok hg.blk.blk) (psr 8) (pe_slice (WL.ok hg.blk.blk) (pcb (WC.ok hg.blk.blk) (by rfl) T.n_sorted bt_sorted (pa_cons (psr 6) pa_nil)) po_none (po_pt (psr 7))) (by with_unfolding_all rfl)))) (fun _ _ _ _ _ => (psr 8))) pa_nil))))
    (C8.pss_cut (pst (i := 5) nd l5 (pe_and2 hg (pe_cmpR (k_eq hg) (pe_at (WA.ok hg) (ps 0 v0)) (ps 1 v1) (nomark _)) (pe_and2 hg (pe_cmpR (k_eq hg) (pe_at (WA.ok hg) (ps 0 v0)) (pe_ix (WX.ok hg) (ps 4 v4) pe_int (fun _ _ => rfl)) (nomark _)) (pe_and2 hg (pe_cmpR (k_eq hg) (pe_at (WA.ok hg) (ps 0 v0)) (pe_ix (WX.ok hg) (ps 4 v4) pe_int (fun _ _ => rfl)) (nomark _)) (pe_one (pe_cmpR (k_eq hg) (pe_at (WA.ok hg) (ps 0 v0)) (pcb (k_len hg) g_len T.n_len bt_len (pa_cons (ps 2 v2) pa_nil)) (nomark _)))))))
    (pss_one (ps_ret (pe_and2 hg (ps 5 v5) (pe_and2 hg (pcb (WC.ok hg) g_isinstance T.n_isinstance bt_isinstance (pa_cons (pe_at (WA.ok hg) (ps 0 v0)) (pa_cons (pe_bltn (v := .ty "tuple") (gv_of g_tuple).1 T.n_tuple bt_tuple rfl) pa_nil))) (pe_and2 hg (pcb (WC.ok hg) g_isinstance T.n_isinstance bt_isinstance (pa_cons (pe_at (WA.ok hg) (ps 0 v0)) (pa_cons (pe_bltn (v := .ty "tuple") (gv_of g_tuple).1 T.n_tuple bt_tuple rfl) pa_nil))) (pe_one (pe_not2 hg (pcb (WC.ok hg) g_isinstance T.n_isinstance bt_isinstance (pa_cons (pe_at (WA.ok hg) (ps 0 v0)) (pa_cons (pe_bltn (v := .ty "bool") (gv_of g_bool).1 T.n_bool bt_bool rfl) pa_nil))))))))))))), ?_⟩
  refine st_start (σ := [some _, some _, none, none, none, none, none, none, none]) rfl ?_
  walk_at "dn"
  refine ⟨fun σ' H1 => ∃ l1 l2, σ' = [some (.ref a), some (.ref p), some (.ref l1), some (.ref l2), none, none, none, none, none] ∧ SS (E := E1 Γ) H1 [] H1 [] [lstR l2 ((t.told "marked").map V.str) true, lstR l1 ((t.told "step").map V.str) true] ∧ Same H H1, ?_, ?_⟩
  · refine ⟨p, t, _, rfl, .inl rfl, ok, hp, hd, hs, fun l1 H1 hl1 s1 hc1 => ⟨p, t, _, rfl, .inr rfl, ok, hp.same s1, hd, hm, fun l2 H2 hl2 s2 hc2 => ?_⟩⟩
    walk_at "di"
    refine ⟨l1, l2, rfl, (SS.ro1 (o := .lst _) (s2 _ _ hc1) (fun z => z)).ro (o := .lst _) hc2 (fun z => z) (fun z => ?_), s1.trans s2⟩
    obtain rfl : l2 = l1 := by simpa [fps, cellR] using z
    rw [hc1] at hl2; cases hl2
  rintro σ' H1 ⟨l1, l2, rfl, s1, sm1⟩
  refine ⟨fun σ' H2 => ∃ (D q1 q2 : Addr) (z1 z2 : List Str), σ' = [some (.ref a), some (.ref p), some (.ref l1), some (.ref l2), some (.ref D), none, none, none, none] ∧ Same H1 H2 ∧ H2 D = some (.lst [.ref q1, .ref q2]) ∧ SqT Γ.K H2 q1 (z1.map V.str) ∧ SqT Γ.K H2 q2 (z2.map V.str) ∧ Due t "step" z1 ∧ Due t "marked" z2, ?_, ?_⟩
  · walk_at "dn"
    refine ⟨szl (by simp only [List.length_cons, List.length_nil]; omega), fun pl hpl => ⟨pl, rfl, ⟨_, SqL.of upd_same⟩, fun D hD => ?_⟩⟩
    have s2 := s1.newC (o := .lst [.ref l1, .ref l2]) hpl (fun z => z)
    refine lq_it walk_list (fun i acc H' => ∃ (F : List (PF (E1 Γ))) (qs : List (Addr × List Str)), SS (E := E1 Γ) H1 [] H' F [lstR D acc, lstR pl [.ref l1, .ref l2], lstR l2 ((t.told "marked").map V.str) true, lstR l1 ((t.told "step").map V.str) true] ∧ acc = qs.map (fun e => V.ref e.1) ∧ qs.length = i ∧
      ∀ j e, qs[j]? = some e → tupF e.1 (e.2.map V.str) ∈ F ∧ Due t (dueW j) e.2) ⟨[], [], s2.newC hD (fun z => z), rfl, rfl, fun j e h => by simp at h⟩ (fun _ _ _ _ h => by obtain ⟨F, qs, s, _⟩ := h; exact SqL.of (s.cell (.tail _ (.head _)))) ?_ ?_
    · rintro i x acc H2 H3 hi hl ⟨F, qs, s, rfl, hqs, hq⟩ ⟨rfl, hx2⟩
      obtain ⟨l, rfl, hsq, hlen⟩ : ∃ l, x = .ref l ∧ SqL Γ.K H3 l ((t.told (dueW i)).map V.str) ∧ (t.told (dueW i)).length < 64 := by
        have hx3 : [V.ref l1, V.ref l2][i]? = some x := hx2
        match i, hx3 with
        | 0, h => exact ⟨l1, by simpa using h.symm, SqL.of (s.cell (.tail _ (.tail _ (.tail _ (.head _))))), hs⟩
        | 1, h => exact ⟨l2, by simpa using h.symm, SqL.of (s.cell (.tail _ (.tail _ (.head _)))), hm⟩
        | n + 2, h => simp at h
      walk_at "dn"
      refine ⟨rfl, ?_⟩
      refine wc_sortS hsq hlen fun ys p2 hperm hsort hp2 => ?_
      have hys : ys.length < 64 := by rw [hperm.length_eq]; exact hlen
      have s3 := s.newC (o := .lst (ys.map V.str)) hp2 (fun z => z)
      refine ⟨p2, _, rfl, SqL.of upd_same, fun D2 hD2 => ?_⟩
      refine lq_it walk_enum (fun i acc2 H' => ∃ (F' : List (PF (E1 Γ))) (zs : List Str), SS (E := E1 Γ) H1 [] H' F' [lstR D2 acc2, lstR p2 (ys.map V.str), lstR D (qs.map fun e => V.ref e.1), lstR pl [.ref l1, .ref l2], lstR l2 ((t.told "marked").map V.str) true, lstR l1 ((t.told "step").map V.str) true] ∧ (∀ x ∈ F, x ∈ F') ∧
        acc2 = zs.map V.str ∧ zs.Nodup ∧ zs.Sublist (ys.take i) ∧ (∀ z, z ∈ zs ↔ z ∈ ys.take i)) ⟨F, [], s3.newC (o := .lst []) hD2 (fun z => z), fun _ h => h, rfl, .nil, List.nil_sublist _, fun z => by simp⟩ (fun _ _ _ _ h => by obtain ⟨F, zs, s, _⟩ := h; exact SqL.of (s.cell (.tail _ (.head _)))) ?_ ?_
      · rintro j x acc2 H4 H5 hj hl2 ⟨F', zs, s4, hF, rfl, znd, zsub, zmem⟩ ⟨T, x1, y, rfl, hT, rfl, e1, e2⟩
        cases e1
        have hjy : j < ys.length := by rw [List.length_map] at hj; exact hj
        obtain ⟨z, hz⟩ : ∃ z, ys[j]? = some z := ⟨_, List.getElem?_eq_getElem hjy⟩
        have e2' : (ys.map V.str)[j]? = some y := e2
        rw [List.getElem?_map, hz] at e2'
        obtain rfl : V.str z = y := by simpa using e2'
        have s5 := s4.newT (xs := [V.int j, V.str z]) hT
        refine gt_of (s5.tup (.head _)) rfl ?_
        walk_at "dn"
        refine ⟨rfl, ?_⟩
        have hsq5 : SqL Γ.K (upd H4 T (.tup [V.int j, V.str z])) l ((t.told (dueW i)).map V.str) := by
          have hx3 : [V.ref l1, V.ref l2][i]? = some (V.ref l) := hx2
          match i, hx3 with
          | 0, h => obtain rfl : l1 = l := by simpa using h
                    exact SqL.of (s5.cell (.tail _ (.tail _ (.tail _ (.tail _ (.tail _ (.head _)))))))
          | 1, h => obtain rfl : l2 = l := by simpa using h
                    exact SqL.of (s5.cell (.tail _ (.tail _ (.tail _ (.tail _ (.head _))))))
          | n + 2, h => simp at h
        refine wc_sortS hsq5 hlen fun ys' p3 hperm' hsort' hp3 => ?_
        obtain rfl : ys' = ys := perm_sorted_eq hsort' hsort (hperm'.trans hperm.symm)
        have s6 := s5.newC (o := .lst (ys'.map V.str)) hp3 (fun z => z)
        walk_at "di"
        refine wl_l (SqL.of upd_same) fun p4 hp4 => ?_
        have s7 := s6.newC (o := .lst (cutV (ys'.map V.str) none (some (j : Int)))) hp4 (fun z => z)
        rw [cut_to, ← List.map_take] at s7 ⊢
        refine wo_notInS (SqL.of upd_same) ?_
        walk_at "di"
        have htk : ys'.take (j + 1) = ys'.take j ++ [z] := by rw [List.take_add_one, hz]; rfl
        by_cases hin : z ∈ ys'.take j
        · refine br_nt hin ⟨_, Nat.le_trans hl2 (Nat.le_succ _), _, zs, s7.drop.drop, fun x hx => .tail _ (hF x hx), rfl, znd, ?_, fun v => ?_⟩
          · rw [htk]; exact zsub.trans (List.sublist_append_left _ _)
          · rw [htk, List.mem_append, ← zmem v, List.mem_singleton]
            exact ⟨.inl, fun h => h.elim id fun h => by rw [h]; exact (zmem z).mpr hin⟩
        · refine br_nf hin ?_
          refine lq_add (s7.drop.drop) hl2 (lt_size (by omega)) ⟨_, lq_len hl2, _, zs ++ [z], s7.drop.drop.app, fun x hx => .tail _ (hF x hx), ?_, ?_, ?_, ?_⟩
          · rw [List.map_append]; rfl
          · refine List.nodup_append.mpr ⟨znd, List.nodup_cons.mpr ⟨List.not_mem_nil, .nil⟩, fun u hu v hv e => ?_⟩
            rw [List.mem_singleton.mp hv] at e
            exact hin ((zmem z).mp (e ▸ hu))
          · rw [htk]; exact zsub.append (List.Sublist.refl _)
          · intro v
            rw [htk, List.mem_append, List.mem_append, zmem v]
      · rintro acc2 H4 hl2 ⟨F', zs, s4, hF, rfl, znd, zsub, zmem⟩
        rw [List.length_map, List.take_length] at zsub zmem
        refine wc_tup (SqL.of (s4.cell (.head _))) fun p5 hp5 => ?_
        have s5 := (s4.newT (xs := zs.map V.str) hp5).drop.drop
        refine lq_add s5 hl (lt_size (by have : i < 2 := hi; omega)) ⟨_, lq_len hl, _, qs ++ [(p5, zs)], s5.app, ?_, ?_, ?_⟩
        · rw [List.map_append]; rfl
        · rw [List.length_append, hqs]; rfl
        · intro j e he
          rcases Nat.lt_trichotomy j qs.length with h | h | h
          · rw [List.getElem?_append_left h] at he
            exact ⟨.tail _ (hF _ (hq j e he).1), (hq j e he).2⟩
          · rw [h, List.getElem?_append_right (Nat.le_refl _)] at he
            obtain rfl : (p5, zs) = e := by simpa using he
            refine ⟨.head _, znd, (sorted_pw hsort).sublist zsub, fun v => ?_⟩
            rw [zmem v, hperm.mem_iff, h, hqs]
          · rw [List.getElem?_append_right (by omega)] at he
            rw [List.getElem?_eq_none (by simp; omega)] at he
            cases he
    · rintro acc H2 hl ⟨F, qs, s, rfl, hqs, hq⟩
      match qs, hqs, hq with
      | [e1, e2], _, hq =>
        have h1 := hq 0 e1 rfl
        have h2 := hq 1 e2 rfl
        exact ⟨D, e1.1, e2.1, e1.2, e2.2, rfl, s.fr.same, s.cell (.head _), s.tup h1.1, s.tup h2.1, h1.2, h2.2⟩
  rintro σ' H2 ⟨D, q1, q2, z1, z2, rfl, sm2, hD, hq1, hq2, du1, du2⟩
  have sm := sm1.trans sm2
  obtain ⟨dx, pf, ea, hpf⟩ := id (ha.same sm)
  refine ⟨fun σ' H3 => Same H2 H3 ∧ ∃ b4 b5 b6 b7 b8, σ' = [some (.ref a), b4, b5, b6, b7, some (.bl true), b8, none, none], ?_, ?_⟩
  · refine wa_prop KC.tree (by omega) ea (E := E0) ⟨a, t, rfl, ha.same sm, fun p3 hp3 => ?_⟩
    walk_at "di"
    refine wo_eqT hp3 (hp.same sm) ok ok (by omega) (by omega) ?_
    rw [decide_eq_true rfl]
    walk_at "di"
    refine wa_prop KC.kinds (by omega) ea (E := E0) ⟨a, t, rfl, ha.same sm, ok, hd, hs, fun q3 ys H3 s3 hq3 hsort hnd hmem => ?_⟩
    refine wx_l (SqL.of (s3 _ _ hD)) (v := .ref q1) (atG (j := 0) rfl rfl) ?_
    walk_at "di"
    have okn : ∀ w, ∀ z ∈ t.told w, PyData.strOk z = true := fun w z hz => Tr.told_ok ok w z hz
    have fr3 : Fr [] H2 H3 := Fr.of s3
    refine wo_eqST hq3 (fr3.sqt hq1 List.not_mem_nil) (fun z hz => okn _ z ((hmem z).mp hz)) (fun z hz => okn _ z ((du1.mem z).mp hz)) ?_
    rw [decide_eq_true (asc_eq (sorted_pw hsort) du1.pw hnd du1.nd fun z => (hmem z).trans (du1.mem z).symm)]
    walk_at "di"
    refine wa_prop KC.marks (by omega) (s3 _ _ ea) (E := E0) ⟨a, t, rfl, (ha.same sm).same s3, ok, hd, hm, fun q4 ys4 H4 s4 hq4 hsort4 hnd4 hmem4 => ?_⟩
    refine wx_l (SqL.of (s4 _ _ (s3 _ _ hD))) (v := .ref q2) (atG (j := 1) rfl rfl) ?_
    walk_at "di"
    have fr4 : Fr [] H2 H4 := Fr.of (s3.trans s4)
    refine wo_eqST hq4 (fr4.sqt hq2 List.not_mem_nil) (fun z hz => okn _ z ((hmem4 z).mp hz)) (fun z hz => okn _ z ((du2.mem z).mp hz)) ?_
    rw [decide_eq_true (asc_eq (sorted_pw hsort4) du2.pw hnd4 du2.nd fun z => (hmem4 z).trans (du2.mem z).symm)]
    walk_at "di"
    refine wa_prop KC.steps (by omega) (s4 _ _ (s3 _ _ ea)) (E := E0) ⟨a, t, rfl, ((ha.same sm).same s3).same s4, ok, hd, fun H5 s5 => ?_⟩
    refine wc_len_l (xs := (t.told "step").map V.str) (SqL.of (s5 _ _ (s4 _ _ (s3 _ _ (sm2 _ _ (s1.cell (.tail _ (.head _)))))))) ?_
    walk_at "di"
    rw [List.length_map, Tr.told_steps, decide_eq_true rfl]
    exact ⟨(s3.trans s4).trans s5, _, _, _, _, _, rfl⟩
  rintro σ' H3 ⟨s3, b4, b5, b6, b7, b8, rfl⟩
  have sm3 := sm.trans s3
  obtain ⟨dx, pf, ea, hpf⟩ := id (ha.same sm3)
  walk_at "dn"
  refine wa_prop KC.kinds (by omega) ea (E := E0) ⟨a, t, rfl, ha.same sm3, ok, hd, hs, fun q3 ys H4 s4 hq3 hsort hnd hmem => ?_⟩
  refine wc_isi (.ty "tuple") (sqt_ty hq3) (kit_ty (r := true) (by decide +kernel)) ?_
  walk_at "di"
  refine wa_prop KC.tree (by omega) (s4 _ _ ea) (E := E0) ⟨a, t, rfl, (ha.same sm3).same s4, fun p3 hp3 => ?_⟩
  obtain ⟨r3, h4, _, _⟩ := hp3.rest
  refine wc_isi (.ty "tuple") (sqt_ty h4) (kit_ty (r := true) (by decide +kernel)) ?_
  walk_at "di"
  refine wa_prop KC.steps (by omega) (s4 _ _ ea) (E := E0) ⟨a, t, rfl, (ha.same sm3).same s4, ok, hd, fun H5 s5 => ?_⟩
  refine wc_isi (.ty "bool") (.base (.int _)) (kit_ty (r := false) (by decide +kernel)) ?_
  walk_at "di"
  exact q H5 ((sm3.trans s4).trans s5)
theorem step_pos {K : PySem.W.Frag} {H : Hp} {C c : Addr} {k : Str} {m : Nat} (h : LkP K H C ((Tr.st k (if (0 : Int) < (m : Int) then 1 else -1)).grp (m : Int).natAbs) c) (m1 : 1 ≤ m) : LkP K H C ((Tr.st k 1).grp m) c := by
  rw [if_pos (by omega), Int.natAbs_natCast] at h
  exact h
theorem step_neg {K : PySem.W.Frag} {H : Hp} {C c : Addr} {k : Str} {m : Nat} (h : LkP K H C ((Tr.st k (if (0 : Int) < -(m : Int) then 1 else -1)).grp (-(m : Int)).natAbs) c) (m1 : 1 ≤ m) : LkP K H C ((Tr.st k (-1)).grp m) c := by
  rw [if_neg (by omega), Int.natAbs_neg, Int.natAbs_natCast] at h
  exact h
def spPowers (K : PySem.W.Frag) (CL : Addr) : Sp := fun vs H Q _ => ∃ (k : Str) (a p : Addr) (t : Tr), vs = [.str k, .ref a, .ref p] ∧ Nm k ∧ LkP K H CL t a ∧ TrP K H t p ∧ t.ok ∧ t.dep ≤ 40 ∧ ∀ H', Same H H' → Q (.bl true) H'
abbrev s_powers : Stmt := topS 40
abbrev n_powers : List Str := ["_law_kind", "_law_own", "_law_tree", "_law_forth", "_law_rear_so", "_law_by_so", "_law_good", "_law_many"]
theorem sc_powers : FnScope n_powers ["_law_kind", "_law_own", "_law_tree"] (defScope s_powers) := ⟨rfl, rfl, rfl, by decide +kernel, rfl, by decide +kernel, by decide +kernel⟩
theorem nm_powers : nvB n_powers (defScope s_powers) 0 "_law_kind" = true ∧ nvB n_powers (defScope s_powers) 1 "_law_own" = true ∧ nvB n_powers (defScope s_powers) 3 "_law_forth" = true ∧ nvB n_powers (defScope s_powers) 4 "_law_rear_so" = true ∧ nvB n_powers (defScope s_powers) 5 "_law_by_so" = true ∧ nvB n_powers (defScope s_powers) 6 "_law_good" = true ∧ lvB n_powers (defScope s_powers) 5 "_law_by_so" = true ∧ lvB n_powers (defScope s_powers) 6 "_law_good" = true ∧ gvB (defScope s_powers) "_law_grouped" = true ∧ gvB (defScope s_powers) "here" = true ∧ gvB (defScope s_powers) "range" = true ∧ gvB (defScope s_powers) "step" = true := by decide +kernel
theorem cl_powers {Γ : Gm} (dfn : Dfn Γ "_law_powers" s_powers ["_law_kind", "_law_own", "_law_tree"]) (T : Names Γ) {CL CT : Addr} (KE : KE Γ CL CT) (KP : KPw Γ CL) (KC : KC Γ "Look" CL 60) (c_step : Cl Γ CX0 3 "step" (spStep Γ.K CL) []) (c_step_by : Clk Γ CX0 3 "step" (spStep Γ.K CL) 1 ["by"]) (c_here : Cl Γ CX0 3 "here" (spZ Γ.K CL "here") []) (c_law_grouped : Cl Γ CX0 1 "_law_grouped" (spRep Γ.K) []) (m_eq : Mt Γ CX0 1 CL "__eq__" (spEqC Γ.K CL) []) (m_neg : Mt Γ CX0 63 CL "__neg__" (spNeg Γ.K CL 60) []) (m_pow : Mt Γ CX0 3 CL "__pow__" (spPow Γ.K CL) []) : Cl Γ CX0 (100) "_law_powers" (spPowers Γ.K CL) [] := by
  refine dfn.cl sc_powers (fun vs H Q E h => ?_) (fun f cdv A outer s H vs Q E hg h => ?_)
  · obtain ⟨k, a, p, t, rfl, _⟩ := h
    rfl
  obtain ⟨k, a, p, t, rfl, hk, ha, hp, ok, hd, q⟩ := h
  have nd := sc_powers.nd
  obtain ⟨v0, v1, v3, v4, v5, v6, l5, l6, g__law_grouped, g_here, g_range, g_step⟩ := nm_powers
  refine ⟨_, (C8.pss_cut (ps_p2 (i := 3) (j := 4) rfl nd rfl rfl (by decide) rfl rfl (pa_cons (pe_tup (pa_cons pe_str (pa_cons (ps 0 v0) (pa_cons pe_int pa_nil)))) (pa_cons (pe_tup (pa_cons pe_str (pa_cons (ps 0 v0) (pa_cons (pe_un (k_neg hg) pe_int) pa_nil)))) pa_nil)) (by rfl))
    (C8.pss_cut (ps_for PassesOwn.never rfl (pi_r2 g_range T.n_range (pa_cons pe_int (pa_cons pe_int pa_nil))) (pgn (i := 5) nd l5)
    (pss_cons (ps_ifB (PW.pt (pw_orB (pt_cm (k_ne hg) (pe_at (WA.ok hg) (pcl c_step hg (by omega) g_step pass0 (pa_cons (ps 0 v0) (pa_cons (ps 5 v5) pa_nil)))) (pcl c_law_grouped hg (by omega) g__law_grouped pass0 (pa_cons (ps 3 v3) (pa_cons (ps 5 v5) pa_nil))) (nomark _)) (pw_or1 (pt_cm (k_ne hg) (pcl c_step hg (by omega) g_step pass0 (pa_cons (ps 0 v0) (pa_cons (pe_un (k_neg hg) (ps 5 v5)) pa_nil))) (pclk c_step_by hg (by omega) g_step pass0 (pa_cons (ps 0 v0) pa_nil) (pk_cons (pe_un (k_neg hg) (ps 5 v5)) pk_nil)) (nomark _)))))
    (pss_one (ps_ret pe_bl))
    pss_nil)
    (pss_one (ps_ifB (PW.pt (pw_orB (pt_cm (k_ne hg) (pe_at (WA.ok hg) (pcl c_step hg (by omega) g_step pass0 (pa_cons (ps 0 v0) (pa_cons (pe_un (k_neg hg) (ps 5 v5)) pa_nil)))) (pcl c_law_grouped hg (by omega) g__law_grouped pass0 (pa_cons (ps 4 v4) (pa_cons (ps 5 v5) pa_nil))) (nomark _)) (pw_or1 (pt_cm (k_ne hg) (pe_at (WA.ok hg) (pe_un (k_neg hg) (pcl c_step hg (by omega) g_step pass0 (pa_cons (ps 0 v0) (pa_cons (ps 5 v5) pa_nil))))) (ps 5 v5) (nomark _)))))
    (pss_one (ps_ret pe_bl))
    pss_nil))))
    (C8.pss_cut (pst (i := 6) nd l6 (pe_lst (pa_cons (pe_at (WA.ok hg) (pe_op (k_pow hg) (ps 1 v1) pe_int)) (pa_cons (pe_at (WA.ok hg) (pe_op (k_pow hg) (ps 1 v1) pe_int)) (pa_cons (pe_at (WA.ok hg) (pe_op (k_pow hg) (ps 1 v1) pe_int)) (pa_cons (pe_at (WA.ok hg) (pe_op (k_pow hg) (ps 1 v1) pe_int)) (pa_cons (pe_at (WA.ok hg) (pe_op (k_pow hg) (ps 1 v1) pe_int)) pa_nil)))))))
    (pss_one (ps_ret (pe_and2 hg (pe_cmpR (k_eq hg) (ps 6 v6) (pe_lc (own := [("_law_many", 7)]) rfl nd (pi_t hg (pe_tup (pa_cons pe_int (pa_cons pe_int (pa_cons pe_int (pa_cons pe_int (pa_cons pe_int pa_nil))))))) (blkOk_by (N := n_powers) (sc := defScope s_powers) (by decide +kernel)) (fun _ _ _ _ _ => (pg_name (i := 7) nd rfl (by first | exact .inl rfl | exact .inr rfl))) (fun _ _ _ _ _ => pts_nil) (fun _ _ _ _ _ => (pcl c_law_grouped hg.blk (by omega) (by rfl) pass0 (pa_cons (psr 2) (pa_cons (psr 7) pa_nil))))) (nomark _)) (pe_one (pe_cmpR (k_eq hg) (pcl c_step hg (by omega) g_step pass0 (pa_cons (ps 0 v0) (pa_cons pe_int pa_nil))) (pcl0 c_here hg (by omega) g_here pass0) (nomark _))))))))), ?_⟩
  refine st_start (σ := [some _, some _, some _, none, none, none, none, none]) rfl ?_
  walk_at "dn"
  have okst : ∀ d : Int, (Tr.st k d).ok := fun _ => Nm.ok hk
  have dst : ∀ (d : Int) (m : Nat), m ≤ 9 → ((Tr.st k d).grp m).dep ≤ 60 := fun d m h => Nat.le_trans (Tr.grp_dep _ _) (by simp only [Tr.dep]; omega)
  refine ⟨fun σ' H1 => ∃ p1 p2, σ' = [some (.str k), some (.ref a), some (.ref p), some (.ref p1), some (.ref p2), none, none, none] ∧ Same H H1 ∧ TrP Γ.K H1 (.st k 1) p1 ∧ TrP Γ.K H1 (.st k (-1)) p2, ⟨szl (by simp only [List.length_cons, List.length_nil]; omega), fun p1 hp1 => ⟨szl (by simp only [List.length_cons, List.length_nil]; omega), fun p2 hp2 => ⟨p1, p2, rfl, (Same.mk hp1).trans (Same.mk hp2), TrP.same (SqT.of upd_same) (Same.mk hp2), SqT.of upd_same⟩⟩⟩, ?_⟩
  rintro σ' H1 ⟨p1, p2, rfl, sm1, h1, h2⟩
  refine ⟨fun σ' H2 => ∃ c, σ' = [some (.str k), some (.ref a), some (.ref p), some (.ref p1), some (.ref p2), c, none, none] ∧ Same H1 H2, ⟨1, 10, rfl, by decide, ?_⟩, ?_⟩
  · refine lp_range (fun i σ H' => ∃ c, σ = [some (.str k), some (.ref a), some (.ref p), some (.ref p1), some (.ref p2), c, none, none] ∧ Same H1 H') ⟨none, rfl, Same.refl _⟩ ?_ (fun σ H' h => h)
    rintro i σ H2 hi ⟨c, rfl, sm2⟩
    have hi9 : i < 9 := hi
    obtain ⟨m, hm, m1, m9⟩ : ∃ m : Nat, (1 + (i : Int)) = m ∧ 1 ≤ m ∧ m ≤ 9 := ⟨1 + i, by omega, by omega, by omega⟩
    rw [hm]
    walk_at "dn"
    refine ⟨k, m, rfl, hk, by omega, fun c1 H3 s3 hc1 => ?_⟩
    have hc1 := step_pos hc1 m1
    obtain ⟨dx1, px1, e1, _⟩ := id hc1
    refine wa_prop KC.tree (by omega) e1 (E := E0) ⟨c1, _, rfl, hc1, fun q1 hq1 => ?_⟩
    refine ⟨p1, .st k 1, m, rfl, (h1.same sm2).same s3, m9, fun q2 H4 s4 hq2 => ?_⟩
    refine wo_neT (hq1.same s4) hq2 (Tr.grp_ok (okst _) _) (Tr.grp_ok (okst _) _) (by have := dst 1 m m9; omega) (by have := dst 1 m m9; omega) ?_
    rw [decide_eq_true rfl]
    walk_at "di"
    refine ⟨k, -m, rfl, hk, by omega, fun c2 H5 s5 hc2 => ?_⟩
    have hc2 := step_neg hc2 m1
    refine ⟨rfl, rfl, k, -m, rfl, hk, by omega, fun c3 H6 s6 hc3 => ?_⟩
    have hc3 := step_neg hc3 m1
    have hc2 := hc2.same s6
    obtain ⟨dx2, px2, e2, _⟩ := id hc2
    obtain ⟨dx3, px3, e3, _⟩ := id hc3
    refine wo_neO KE.L.k KE.L.qn m_eq (by omega) (KE.L.ty e3) KE.nLL e2 (E := E0) ⟨c2, _, _, rfl, hc2, Tr.grp_ok (okst _) _, (by have := dst (-1) m m9; omega), .inl ⟨c3, _, rfl, hc3, Tr.grp_ok (okst _) _, (by have := dst (-1) m m9; omega), _, rfl, ?_⟩⟩
    rw [decide_eq_true rfl]
    walk_at "di"
    refine ⟨k, -m, rfl, hk, by omega, fun c4 H7 s7 hc4 => ?_⟩
    have hc4 := step_neg hc4 m1
    obtain ⟨dx4, px4, e4, _⟩ := id hc4
    refine wa_prop KC.tree (by omega) e4 (E := E0) ⟨c4, _, rfl, hc4, fun q4 hq4 => ?_⟩
    have sm7 := ((((sm2.trans s3).trans s4).trans s5).trans s6).trans s7
    refine ⟨p2, .st k (-1), m, rfl, h2.same sm7, m9, fun q5 H8 s8 hq5 => ?_⟩
    refine wo_neT (hq4.same s8) hq5 (Tr.grp_ok (okst _) _) (Tr.grp_ok (okst _) _) (by have := dst (-1) m m9; omega) (by have := dst (-1) m m9; omega) ?_
    rw [decide_eq_true rfl]
    walk_at "di"
    refine ⟨k, m, rfl, hk, by omega, fun c6 H9 s9 hc6 => ?_⟩
    have hc6 := step_pos hc6 m1
    obtain ⟨dx6, px6, e6, _⟩ := id hc6
    refine wu_negO (E := E0) (sp := spNeg Γ.K CL 60) m_neg (by omega) e6 ⟨c6, _, rfl, hc6, Tr.grp_walk (t := .st k 1) trivial _, dst 1 m m9, fun c7 H10 s10 hc7 => ?_⟩
    obtain ⟨dx7, px7, e7, _⟩ := id hc7
    refine wa_prop KC.steps (by omega) e7 (E := E0) ⟨c7, _, rfl, hc7, Tr.back_ok (Tr.grp_ok (okst _) _), (by rw [Tr.back_dep]; exact dst 1 m m9), fun H11 s11 => ?_⟩
    rw [Tr.back_steps, Tr.grp_steps, show (Tr.st k 1).steps = 1 from rfl, Nat.mul_one]
    walk_at "di"
    rw [decide_eq_true rfl]
    exact ⟨_, rfl, (((sm7.trans s8).trans s9).trans s10).trans s11⟩
  rintro σ' H2 ⟨c, rfl, sm2⟩
  have sm := sm1.trans sm2
  have pw : ∀ (n : Nat) (H3 : Hp) (R : VK), n ≤ 9 → Same H H3 → (∀ H4, Same H3 H4 → ∀ p', TrP Γ.K H4 (t.grp n) p' → R (.ref p') H4) → WO (Γ.at 99) (binaryOp .Pow) (.ref a) (.int n) H3 fun x H4 => WA (Γ.at 99) "tree" x H4 R := by
    intro n H3 R hn s3 hR
    have ha3 := ha.same s3
    obtain ⟨dx, pa, ea, _⟩ := id ha3
    obtain ⟨rc, r1, r2⟩ := KP.r
    obtain ⟨fo, a1⟩ := KP.a
    obtain ⟨ro, b1⟩ := KP.b
    have ep : PySem.dunder Operator.Pow.info.2 = "__pow__" := by decide +kernel
    refine wo_ownT (op := .Pow) (T := "int") (y := .int n) (sp := spPow Γ.K CL) (E := E0) (fun u hu => by obtain ⟨tk, rfl⟩ := hu; rfl) KE.L.k (by rw [ep]; exact m_pow) (by omega) r1 r2 a1 b1 KP.s ea ⟨a, t, n, rfl, ha3, hn, fun c4 H4 s4 hc4 => ?_⟩
    obtain ⟨dx4, px4, e4, _⟩ := id hc4
    exact wa_prop KC.tree (by omega) e4 (E := E0) ⟨c4, _, rfl, hc4, fun p' hp' => hR H4 s4 p' hp'⟩
  refine ⟨fun σ' H3 => ∃ l q0 q1 q2 q5 q9, σ' = [some (.str k), some (.ref a), some (.ref p), some (.ref p1), some (.ref p2), c, some (.ref l), none] ∧ Same H H3 ∧ H3 l = some (.lst [.ref q0, .ref q1, .ref q2, .ref q5, .ref q9]) ∧ TrPs Γ.K H3 [t.grp 0, t.grp 1, t.grp 2, t.grp 5, t.grp 9] [q0, q1, q2, q5, q9], ?_, ?_⟩
  · walk_at "dn"
    refine pw 0 H2 _ (by omega) sm fun H3 s3 q0 h0 => ?_
    refine pw 1 H3 _ (by omega) (sm.trans s3) fun H4 s4 q1 h1 => ?_
    refine pw 2 H4 _ (by omega) ((sm.trans s3).trans s4) fun H5 s5 q2 h2 => ?_
    refine pw 5 H5 _ (by omega) (((sm.trans s3).trans s4).trans s5) fun H6 s6 q5 h5 => ?_
    refine pw 9 H6 _ (by omega) ((((sm.trans s3).trans s4).trans s5).trans s6) fun H7 s7 q9 h9 => ?_
    refine ⟨szl (by simp only [List.length_cons, List.length_nil]; omega), fun l hl => ⟨l, q0, q1, q2, q5, q9, rfl, (((((sm.trans s3).trans s4).trans s5).trans s6).trans s7).trans (Same.mk hl), upd_same, TrPs.same (.cons ((((h0.same s4).same s5).same s6).same s7) (.cons (((h1.same s5).same s6).same s7) (.cons ((h2.same s6).same s7) (.cons (h5.same s7) (.cons h9 .nil))))) (Same.mk hl)⟩⟩
  rintro σ' H3 ⟨l, q0, q1, q2, q5, q9, rfl, sm3, hl3, ht3⟩
  walk_at "dn"
  refine ⟨szl (by simp only [List.length_cons, List.length_nil]; omega), fun pm hpm => ⟨pm, rfl, ⟨_, SqT.of upd_same⟩, fun D hD => ?_⟩⟩
  have s4 : SS (E := E1 Γ) H3 [] (upd H3 pm (.tup [.int 0, .int 1, .int 2, .int 5, .int 9])) [tupF pm [.int 0, .int 1, .int 2, .int 5, .int 9]] [] := SS.start0.newT hpm
  refine lq_it walk_tup (fun i acc H' => ∃ (F : List (PF (E1 Γ))) (ps : List Addr), SS (E := E1 Γ) H3 [] H' F [lstR D acc] ∧ tupF pm [.int 0, .int 1, .int 2, .int 5, .int 9] ∈ F ∧ acc = ps.map V.ref ∧ ps.length = i ∧ ∀ (j : Nat) (n : Nat) (p' : Addr), [0, 1, 2, 5, 9][j]? = some n → ps[j]? = some p' → trF (t.grp n) p' ∈ F)
    ⟨_, [], s4.newC (o := .lst []) hD (fun z => z), .head _, rfl, rfl, fun j n p' _ h => by simp at h⟩ (fun _ _ _ _ h => by obtain ⟨F, ps, s, hm, _⟩ := h; exact s.tup hm) ?_ ?_
  · rintro i x acc H4 H5 hi hl ⟨F, ps, s, hm, rfl, hps, hF⟩ ⟨rfl, hx2⟩
    obtain ⟨n, hn1, rfl, hn9⟩ : ∃ n : Nat, [0, 1, 2, 5, 9][i]? = some n ∧ x = .int n ∧ n ≤ 9 := by
      have hx3 : [V.int 0, V.int 1, V.int 2, V.int 5, V.int 9][i]? = some x := hx2
      match i, hx3 with
      | 0, h => exact ⟨0, rfl, by simpa using h.symm, by omega⟩
      | 1, h => exact ⟨1, rfl, by simpa using h.symm, by omega⟩
      | 2, h => exact ⟨2, rfl, by simpa using h.symm, by omega⟩
      | 3, h => exact ⟨5, rfl, by simpa using h.symm, by omega⟩
      | 4, h => exact ⟨9, rfl, by simpa using h.symm, by omega⟩
      | n + 5, h => simp at h
    walk_at "dn"
    refine ⟨rfl, p, t, n, rfl, (hp.same sm3).same s.fr.same, hn9, fun q6 H6 s6 hq6 => ?_⟩
    have s7 := (s.same s6).add (trF (t.grp n) q6) hq6
    refine lq_add s7 hl (lt_size (by have : i < 5 := hi; omega)) ⟨_, lq_len hl, _, ps ++ [q6], s7.app, .tail _ hm, by rw [List.map_append]; rfl, by rw [List.length_append, hps]; rfl, fun j n' p' h1 h2 => ?_⟩
    rcases Nat.lt_trichotomy j ps.length with h | h | h
    · rw [List.getElem?_append_left h] at h2
      exact .tail _ (hF j n' p' h1 h2)
    · rw [h, List.getElem?_append_right (Nat.le_refl _)] at h2
      obtain rfl : q6 = p' := by simpa using h2
      rw [h, hps, hn1] at h1
      obtain rfl := Option.some.inj h1
      exact .head _
    · rw [List.getElem?_append_right (by omega), List.getElem?_eq_none (by simp; omega)] at h2
      cases h2
  · rintro acc H4 hl ⟨F, ps, s, hm, rfl, hps, hF⟩
    match ps, hps, hF, s with
    | [r0, r1, r2, r5, r9], _, hF, s =>
      have sm4 : Same H3 H4 := s.fr.same
      have g : ∀ (j n : Nat) (p' : Addr), [0, 1, 2, 5, 9][j]? = some n → [r0, r1, r2, r5, r9][j]? = some p' → TrP Γ.K H4 (t.grp n) p' := fun j n p' h1 h2 => s.f _ (hF j n p' h1 h2)
      have okg : ∀ x ∈ [t.grp 0, t.grp 1, t.grp 2, t.grp 5, t.grp 9], x.ok ∧ x.dep ≤ 63 := by
        intro x hx
        simp only [List.mem_cons, List.not_mem_nil, or_false] at hx
        have key : ∀ n, n ≤ 9 → (t.grp n).ok ∧ (t.grp n).dep ≤ 63 := fun n hn => ⟨Tr.grp_ok ok n, by have := Tr.grp_dep t n; omega⟩
        rcases hx with rfl | rfl | rfl | rfl | rfl
        · exact key 0 (by omega)
        · exact key 1 (by omega)
        · exact key 2 (by omega)
        · exact key 5 (by omega)
        · exact key 9 (by omega)
      refine wo_eqTs (ps := [q0, q1, q2, q5, q9]) (qs := [r0, r1, r2, r5, r9]) (SqL.of (sm4 _ _ hl3)) (SqL.of (s.cell (.head _))) (ht3.same sm4) (.cons (g 0 0 r0 rfl rfl) (.cons (g 1 1 r1 rfl rfl) (.cons (g 2 2 r2 rfl rfl) (.cons (g 3 5 r5 rfl rfl) (.cons (g 4 9 r9 rfl rfl) .nil)))))
        (fun x hx => (okg x hx).1) (fun x hx => (okg x hx).1) (fun x hx => (okg x hx).2) (fun x hx => (okg x hx).2) ?_
      rw [decide_eq_true rfl]
      walk_at "di"
      refine ⟨k, 0, rfl, hk, by omega, fun c5 H5 s5 hc5 => ⟨rfl, fun c6 H6 s6 hc6 => ?_⟩⟩
      have hc5 := hc5.same s6
      obtain ⟨dx5, px5, e5, _⟩ := id hc5
      obtain ⟨dx6, px6, e6, _⟩ := id hc6
      refine wo_eqO m_eq (by omega) (KE.L.ty e6) KE.nLL e5 (E := E0) (sp := spEqC Γ.K CL) ⟨c5, _, _, rfl, hc5, Tr.grp_ok (okst _) _, (by have := dst (if (0 : Int) < 0 then 1 else -1) 0 (by omega); simp only [Int.natAbs_zero] at *; omega), .inl ⟨c6, .z "here", rfl, hc6, okw_of (by simp), by simp [Tr.dep], ?_⟩⟩
      rw [decide_eq_true (show (Tr.st k (if (0 : Int) < 0 then 1 else -1)).grp (0 : Int).natAbs = Tr.z "here" from rfl)]
      exact q H6 (((sm3.trans sm4).trans s5).trans s6)
theorem LkP.loc {Γ : Gm} (C : Addr) (t : Tr) (a : Addr) : Loc (E1 Γ).MC [] fun H => LkP Γ.K H C t a := fun H H' k ⟨dx, p, e, h⟩ => ⟨dx, p, k _ _ e (.inr (fun z => z)), TrP.loc t p H H' k h⟩
def lkF {Γ : Gm} (C : Addr) (t : Tr) (a : Addr) : PF (E1 Γ) := ⟨fun H => LkP Γ.K H C t a, LkP.loc C t a⟩
/-- a formula beside its tree -/
def Jn (Γ : Gm) (CL CT : Addr) (e : Bool × Tr) (T : Addr) (H : Hp) : Prop := ∃ a p, SqT Γ.K H T [.ref a, .ref p] ∧ LkP Γ.K H (if e.1 then CT else CL) e.2 a ∧ TrP Γ.K H e.2 p
def jnF {Γ : Gm} (CL CT : Addr) (e : Bool × Tr) (T : Addr) : PF (E1 Γ) := ⟨Jn Γ CL CT e T, fun H H' k ⟨a, p, h1, h2, h3⟩ => ⟨a, p, sqt_loc k h1, LkP.loc _ _ _ H H' k h2, TrP.loc _ _ H H' k h3⟩⟩
/-- all of them -/
def jsF {Γ : Gm} (CL CT : Addr) (es : List (Bool × Tr)) (Ts : List Addr) : PF (E1 Γ) := ⟨fun H => ∀ (j : Nat) e T, es[j]? = some e → Ts[j]? = some T → Jn Γ CL CT e T H, fun H H' k h j e T h1 h2 => (jnF (Γ := Γ) CL CT e T).loc H H' k (h j e T h1 h2)⟩
theorem jsF_of {Γ : Gm} {CL CT : Addr} {es : List (Bool × Tr)} {Ts : List Addr} {H : Hp} (h : ∀ e T, (e, T) ∈ es.zip Ts → Jn Γ CL CT e T H) : (jsF (Γ := Γ) CL CT es Ts).P H := fun j e T h1 h2 => h e T (List.mem_of_getElem? (i := j) (by rw [List.getElem?_zip_eq_some]; exact ⟨h1, h2⟩))
structure GE (ks ms : List Str) (e : Bool × Tr) : Prop where
  wf : e.2.wf ks ms e.1
  dep : e.2.dep ≤ 40
  st : (e.2.told "step").length < 64
  tm : (e.2.told "marked").length < 64
def spRight : Sp := fun vs H Q _ => ∃ (b : Addr) (n : Nat), vs = [.ref b] ∧ Box b (n + 2000) H ∧ ∀ H', Fr [b] H H' → Box b n H' → Q (.bl true) H'
abbrev s_right : Stmt := topS 41
abbrev n_right : List Str := ["_law_box_here", "_law_kinds_so", "_law_names_so", "_law_one", "_law_two", "_law_front", "_law_rear", "_law_old_so", "_law_joint", "_law_far", "_law_near", "_law_wide", "_law_few", "_law_own", "_law_tree", "_law_mine", "_law_its", "_law_walk", "_law_tail", "_law_longer", "_law_both"]
theorem sc_right : FnScope n_right ["_law_box_here"] (defScope s_right) := ⟨rfl, rfl, rfl, by decide +kernel, rfl, by decide +kernel, by decide +kernel⟩
theorem nm_right : nvB n_right (defScope s_right) 0 "_law_box_here" = true ∧ nvB n_right (defScope s_right) 1 "_law_kinds_so" = true ∧ nvB n_right (defScope s_right) 2 "_law_names_so" = true ∧ nvB n_right (defScope s_right) 3 "_law_one" = true ∧ nvB n_right (defScope s_right) 4 "_law_two" = true ∧ nvB n_right (defScope s_right) 5 "_law_front" = true ∧ nvB n_right (defScope s_right) 6 "_law_rear" = true ∧ nvB n_right (defScope s_right) 7 "_law_old_so" = true ∧ nvB n_right (defScope s_right) 8 "_law_joint" = true ∧ nvB n_right (defScope s_right) 9 "_law_far" = true ∧ nvB n_right (defScope s_right) 10 "_law_near" = true ∧ nvB n_right (defScope s_right) 11 "_law_wide" = true ∧ nvB n_right (defScope s_right) 12 "_law_few" = true ∧ nvB n_right (defScope s_right) 13 "_law_own" = true ∧ nvB n_right (defScope s_right) 14 "_law_tree" = true ∧ nvB n_right (defScope s_right) 15 "_law_mine" = true ∧ nvB n_right (defScope s_right) 16 "_law_its" = true ∧ nvB n_right (defScope s_right) 17 "_law_walk" = true ∧ nvB n_right (defScope s_right) 18 "_law_tail" = true ∧ nvB n_right (defScope s_right) 19 "_law_longer" = true ∧ nvB n_right (defScope s_right) 20 "_law_both" = true ∧ lvB n_right (defScope s_right) 3 "_law_one" = true ∧ lvB n_right (defScope s_right) 4 "_law_two" = true ∧ lvB n_right (defScope s_right) 7 "_law_old_so" = true ∧ lvB n_right (defScope s_right) 8 "_law_joint" = true ∧ lvB n_right (defScope s_right) 13 "_law_own" = true ∧ lvB n_right (defScope s_right) 14 "_law_tree" = true ∧ lvB n_right (defScope s_right) 15 "_law_mine" = true ∧ lvB n_right (defScope s_right) 16 "_law_its" = true ∧ lvB n_right (defScope s_right) 17 "_law_walk" = true ∧ lvB n_right (defScope s_right) 18 "_law_tail" = true ∧ lvB n_right (defScope s_right) 19 "_law_longer" = true ∧ lvB n_right (defScope s_right) 20 "_law_both" = true ∧ gvB (defScope s_right) "_law_leaf" = true ∧ gvB (defScope s_right) "_law_look" = true ∧ gvB (defScope s_right) "_law_made_look" = true ∧ gvB (defScope s_right) "_law_made_test" = true ∧ gvB (defScope s_right) "_law_names" = true ∧ gvB (defScope s_right) "_law_powers" = true ∧ gvB (defScope s_right) "_law_take" = true ∧ gvB (defScope s_right) "_law_test" = true ∧ gvB (defScope s_right) "_law_turned" = true ∧ gvB (defScope s_right) "all" = true ∧ gvB (defScope s_right) "always" = true ∧ gvB (defScope s_right) "here" = true := by decide +kernel
theorem cl_right {Γ : Gm} (dfn : Dfn Γ "_law_right" s_right ["_law_box_here"]) (T : Names Γ) {CL CT : Addr} (KE : KE Γ CL CT) (KI : KIn Γ CL) (kL : KC Γ "Look" CL 60) (kT : KC Γ "Test" CT 60) (c_law_take : Cl Γ CX0 1 "_law_take" spTake []) (c_law_names : Cl Γ CX0 4 "_law_names" (spNms Γ.K) []) (c_law_look : Cl Γ CX0 30 "_law_look" (spLook Γ.K 8) []) (c_law_test : Cl Γ CX0 30 "_law_test" (spTest Γ.K 8) []) (c_law_leaf : Cl Γ CX0 3 "_law_leaf" (spLeaf Γ.K) []) (c_law_made_look : Cl Γ CX0 40 "_law_made_look" (spMade Γ.K CL false 30) []) (c_law_made_test : Cl Γ CX0 40 "_law_made_test" (spMade Γ.K CT true 30) []) (c_law_shown : Cl Γ CX0 70 "_law_shown" (spShown Γ 60) []) (c_law_turned : Cl Γ CX0 70 "_law_turned" (spBackOf Γ.K 60) []) (c_law_powers : Cl Γ CX0 100 "_law_powers" (spPowers Γ.K CL) []) (c_here : Cl Γ CX0 3 "here" (spZ Γ.K CL "here") []) (c_always : Cl Γ CX0 3 "always" (spZ Γ.K CT "always") []) (m_eqL : Mt Γ CX0 1 CL "__eq__" (spEqC Γ.K CL) []) (m_eqT : Mt Γ CX0 1 CT "__eq__" (spEqC Γ.K CT) []) (m_neg : Mt Γ CX0 63 CL "__neg__" (spNeg Γ.K CL 60) []) (m_when : Mt Γ CX0 3 CL "when" (spWith Γ.K CL CT CL "when") []) (m_then : Mt Γ CX0 3 CL "__rshift__" (spBin Γ.K CL "then") []) (m_or : Mt Γ CX0 3 CL "__or__" (spBin Γ.K CL "or") []) (m_and : Mt Γ CX0 3 CL "__and__" (spBin Γ.K CL "and") []) (m_found : Mt Γ CX0 3 CL "found" (spUn Γ.K CL CT "found") []) (m_same : Mt Γ CX0 3 CL "same" (spWith Γ.K CL CL CT "same") []) (m_not : Mt Γ CX0 3 CT "__invert__" (spUn Γ.K CT CT "not") []) (t_and : Mt Γ CX0 3 CT "__and__" (spBin Γ.K CT "and") []) (t_or : Mt Γ CX0 3 CT "__or__" (spBin Γ.K CT "or") []) (t_xor : Mt Γ CX0 3 CT "__xor__" (spBin Γ.K CT "xor") []) : Cl Γ CX0 (200) "_law_right" spRight [] := by
  refine dfn.cl sc_right (fun vs H Q E h => ?_) (fun f cdv A outer s H vs Q E hg h => ?_)
  · obtain ⟨b, n, rfl, _⟩ := h
    rfl
  obtain ⟨b, n, rfl, hb, q⟩ := h
  have nd := sc_right.nd
  obtain ⟨v0, v1, v2, v3, v4, v5, v6, v7, v8, v9, v10, v11, v12, v13, v14, v15, v16, v17, v18, v19, v20, l3, l4, l7, l8, l13, l14, l15, l16, l17, l18, l19, l20, g__law_leaf, g__law_look, g__law_made_look, g__law_made_test, g__law_names, g__law_powers, g__law_take, g__law_test, g__law_turned, g_all, g_always, g_here⟩ := nm_right
  refine ⟨_, (C8.pss_cut (ps_p2 (i := 1) (j := 2) rfl nd rfl rfl (by decide) rfl rfl (pa_cons (pcl c_law_names hg (by omega) g__law_names pass0 (pa_cons (ps 0 v0) (pa_cons pe_int pa_nil))) (pa_cons (pcl c_law_names hg (by omega) g__law_names pass0 (pa_cons (ps 0 v0) (pa_cons pe_int pa_nil))) pa_nil)) (by rfl))
    (C8.pss_cut (pst (i := 3) nd l3 (pcl c_law_look hg (by omega) g__law_look pass0 (pa_cons (ps 0 v0) (pa_cons (pe_op (k_add hg) pe_int (pcl c_law_take hg (by omega) g__law_take pass0 (pa_cons (ps 0 v0) (pa_cons pe_int pa_nil)))) (pa_cons (ps 1 v1) (pa_cons (ps 2 v2) (pa_cons pe_bl pa_nil)))))))
    (C8.pss_cut (pst (i := 4) nd l4 (pcl c_law_look hg (by omega) g__law_look pass0 (pa_cons (ps 0 v0) (pa_cons (pe_op (k_add hg) pe_int (pcl c_law_take hg (by omega) g__law_take pass0 (pa_cons (ps 0 v0) (pa_cons pe_int pa_nil)))) (pa_cons (ps 1 v1) (pa_cons (ps 2 v2) (pa_cons pe_bl pa_nil)))))))
    (C8.pss_cut (ps_p2 (i := 5) (j := 6) rfl nd rfl rfl (by decide) rfl rfl (pa_cons (pcl c_law_made_look hg (by omega) g__law_made_look pass0 (pa_cons (ps 3 v3) pa_nil)) (pa_cons (pcl c_law_made_look hg (by omega) g__law_made_look pass0 (pa_cons (ps 4 v4) pa_nil)) pa_nil)) (by rfl))
    (pss_cons (pst (i := 7) nd l7 (ps 5 v5))
    (C8.pss_cut (ps_aug (i := 5) nd rfl (by first | exact .inl rfl | exact .inr rfl) (ps 6 v6) (WI.ok hg))
    (C8.pss_cut (pst (i := 8) nd l8 (pe_lst (pa_cons (pe_tup (pa_cons (ps 5 v5) (pa_cons (pe_tup (pa_cons pe_str (pa_cons (ps 3 v3) (pa_cons (ps 4 v4) pa_nil)))) pa_nil))) (pa_cons (pe_tup (pa_cons (pe_op (WO.ok hg) (ps 7 v7) (ps 6 v6)) (pa_cons (pe_tup (pa_cons pe_str (pa_cons (ps 3 v3) (pa_cons (ps 4 v4) pa_nil)))) pa_nil))) (pa_cons (pe_tup (pa_cons (pe_op (WO.ok hg) (ps 7 v7) (ps 6 v6)) (pa_cons (pe_tup (pa_cons pe_str (pa_cons (ps 3 v3) (pa_cons (ps 4 v4) pa_nil)))) pa_nil))) pa_nil)))))
    (pss_cons (ps_p2 (i := 9) (j := 10) rfl nd rfl rfl (by decide) rfl rfl (pa_cons (pcl c_law_test hg (by omega) g__law_test pass0 (pa_cons (ps 0 v0) (pa_cons (pe_op (k_add hg) pe_int (pcl c_law_take hg (by omega) g__law_take pass0 (pa_cons (ps 0 v0) (pa_cons pe_int pa_nil)))) (pa_cons (ps 1 v1) (pa_cons (ps 2 v2) (pa_cons pe_bl pa_nil)))))) (pa_cons (pe_tup (pa_cons pe_str (pa_cons (ps 4 v4) pa_nil))) pa_nil)) (by rfl))
    (C8.pss_cut (ps_p2 (i := 11) (j := 12) rfl nd rfl rfl (by decide) rfl rfl (pa_cons (pcl c_law_made_test hg (by omega) g__law_made_test pass0 (pa_cons (ps 9 v9) pa_nil)) (pa_cons (pe_mw0 hg (ps 6 v6)) pa_nil)) (by rfl))
    (C8.pss_cut (pst (i := 8) nd l8 (pe_op (k_add hg) (ps 8 v8) (pe_lst (pa_cons (pe_tup (pa_cons (pe_mw hg (ps 7 v7) (pa_cons (ps 11 v11) pa_nil)) (pa_cons (pe_tup (pa_cons pe_str (pa_cons (ps 3 v3) (pa_cons (ps 9 v9) pa_nil)))) pa_nil))) (pa_cons (pe_tup (pa_cons (pe_mw hg (ps 7 v7) (pa_cons (ps 6 v6) pa_nil)) (pa_cons (pe_tup (pa_cons pe_str (pa_cons (ps 3 v3) (pa_cons (ps 4 v4) pa_nil)))) pa_nil))) (pa_cons (pe_tup (pa_cons (ps 12 v12) (pa_cons (ps 10 v10) pa_nil))) pa_nil))))))
    (C8.pss_cut (pst (i := 8) nd l8 (pe_op (k_add hg) (ps 8 v8) (pe_lst (pa_cons (pe_tup (pa_cons (pe_op (WO.ok hg) (ps 11 v11) (ps 12 v12)) (pa_cons (pe_tup (pa_cons pe_str (pa_cons (ps 9 v9) (pa_cons (ps 10 v10) pa_nil)))) pa_nil))) (pa_cons (pe_tup (pa_cons (pe_op (WO.ok hg) (ps 12 v12) (ps 11 v11)) (pa_cons (pe_tup (pa_cons pe_str (pa_cons (ps 10 v10) (pa_cons (ps 9 v9) pa_nil)))) pa_nil))) (pa_cons (pe_tup (pa_cons (pe_un (WU.ok hg) (ps 11 v11)) (pa_cons (pe_tup (pa_cons pe_str (pa_cons (ps 9 v9) pa_nil))) pa_nil))) pa_nil))))))
    (C8.pss_cut (pst (i := 8) nd l8 (pe_op (k_add hg) (ps 8 v8) (pe_lst (pa_cons (pe_tup (pa_cons (pe_op (WO.ok hg) (ps 11 v11) (ps 12 v12)) (pa_cons (pe_tup (pa_cons pe_str (pa_cons (ps 9 v9) (pa_cons (ps 10 v10) pa_nil)))) pa_nil))) (pa_cons (pe_tup (pa_cons (ps 7 v7) (pa_cons (ps 3 v3) pa_nil))) (pa_cons (pe_tup (pa_cons (ps 6 v6) (pa_cons (ps 4 v4) pa_nil))) (pa_cons (pe_tup (pa_cons (ps 11 v11) (pa_cons (ps 9 v9) pa_nil))) pa_nil)))))))
    (C8.pss_cut (ps_ifB (pt_not (pt_tr hg (pcb (WC.ok hg) g_all T.n_all bt_all (pa_cons (pe_lc (own := [("_law_own", 13), ("_law_tree", 14)]) rfl nd (pi_l hg (ps 8 v8)) (blkOk_by (N := n_right) (sc := defScope s_right) (by decide +kernel)) (fun _ _ _ _ _ => (pg_tK hg.blk 2 rfl (pgs_c (pg_name (i := 13) nd rfl (by first | exact .inl rfl | exact .inr rfl)) (pgs_c (pg_name (i := 14) nd rfl (by first | exact .inl rfl | exact .inr rfl)) pgs_0)))) (fun _ _ _ _ _ => pts_nil) (fun _ _ _ _ _ => (pcl c_law_shown hg.blk (by omega) (by rfl) pass0 (pa_cons (psr 13) (pa_cons (psr 14) pa_nil))))) pa_nil))))
    (pss_one (ps_ret pe_bl))
    pss_nil)
    (C8.pss_cut (ps_for PassesOwn.never rfl (pi_l hg (ps 8 v8)) (pg_tK hg 2 rfl (pgs_c (pgn (i := 13) nd l13) (pgs_c (pgn (i := 14) nd l14) pgs_0)))
    (pss_one (ps_for PassesOwn.never rfl (pi_l hg (ps 8 v8)) (pg_tK hg 2 rfl (pgs_c (pgn (i := 15) nd l15) (pgs_c (pgn (i := 16) nd l16) pgs_0)))
    (pss_one (ps_ifB (PW.pt (pw_orB (PW.pt (pw_andB (pt_cm (k_eq hg) (ps 16 v16) (ps 14 v14) (nomark _)) (pw_and1 (pt_not (pt_cm (k_eq hg) (ps 13 v13) (ps 15 v15) (nomark _)))))) (pw_or1 (PW.pt (pw_andB (pt_cm (k_ne hg) (ps 16 v16) (ps 14 v14) (nomark _)) (pw_and1 (pt_cm (k_eq hg) (ps 13 v13) (ps 15 v15) (nomark _))))))))
    (pss_one (ps_ret pe_bl))
    pss_nil)))))
    (pss_cons (pst (i := 17) nd l17 (pcl c_law_look hg (by omega) g__law_look pass0 (pa_cons (ps 0 v0) (pa_cons pe_int (pa_cons (ps 1 v1) (pa_cons (ps 2 v2) (pa_cons pe_bl pa_nil)))))))
    (pss_cons (pst (i := 18) nd l18 (pe_tup (pa_cons pe_str (pa_cons (pe_tup (pa_cons pe_str pa_nil)) (pa_cons (pcl c_law_leaf hg (by omega) g__law_leaf pass0 (pa_cons (ps 0 v0) (pa_cons (ps 1 v1) (pa_cons pe_bl pa_nil)))) pa_nil)))))
    (pss_cons (pst (i := 19) nd l19 (pe_tup (pa_cons pe_str (pa_cons (pe_tup (pa_cons pe_str (pa_cons (ps 17 v17) (pa_cons (pcl c_law_leaf hg (by omega) g__law_leaf pass0 (pa_cons (ps 0 v0) (pa_cons (ps 1 v1) (pa_cons pe_bl pa_nil)))) pa_nil)))) (pa_cons (ps 18 v18) pa_nil)))))
    (C8.pss_cut (pst (i := 13) nd l13 (pcl c_law_made_look hg (by omega) g__law_made_look pass0 (pa_cons (ps 19 v19) pa_nil)))
    (C8.pss_cut (ps_ifB (PW.pt (pw_orB (pt_cm (k_ne hg) (pe_at (WA.ok hg) (pe_un (k_neg hg) (ps 13 v13))) (pcl c_law_turned hg (by omega) g__law_turned pass0 (pa_cons (ps 19 v19) pa_nil)) (nomark _)) (pw_orB (pt_cm (k_ne hg) (pe_un (k_neg hg) (pe_un (k_neg hg) (ps 13 v13))) (ps 13 v13) (nomark _)) (pw_or1 (pt_not (pt_cm (k_eq hg) (pe_at (WA.ok hg) (pe_un (k_neg hg) (ps 13 v13))) (pe_at (WA.ok hg) (ps 13 v13)) (nomark _)))))))
    (pss_one (ps_ret pe_bl))
    pss_nil)
    (C8.pss_cut (pst (i := 20) nd l20 (pe_cmpR (k_eq hg) (pe_op (WO.ok hg) (pe_mw0 hg (pcl0 c_here hg (by omega) g_here pass0)) (pcl0 c_always hg (by omega) g_always pass0)) (pe_at (WA.ok hg) (pcl0 c_always hg (by omega) g_always pass0)) (nomark _)))
    (pss_one (ps_ret (pe_and2 hg (pe_not2 hg (ps 20 v20)) (pe_and2 hg (pcl c_law_powers hg (by omega) g__law_powers pass0 (pa_cons (pe_ix (WX.ok hg) (ps 1 v1) pe_int (fun _ _ => rfl)) (pa_cons (ps 13 v13) (pa_cons (ps 19 v19) pa_nil)))) (pe_one (pe_cmpR (k_ne hg) (pe_op (WO.ok hg) (ps 7 v7) (ps 6 v6)) (pe_op (WO.ok hg) (pe_mw0 hg (ps 7 v7)) (ps 12 v12)) (nomark _))))))))))))))))))))))))))), ?_⟩
  refine st_start (σ := [some _, none, none, none, none, none, none, none, none, none, none, none, none, none, none, none, none, none, none, none, none]) rfl ?_
  walk_at "dn"
  have e1 : PySem.dunder Operator.RShift.info.2 = "__rshift__" := by decide +kernel
  have e2 : PySem.dunder Operator.BitOr.info.2 = "__or__" := by decide +kernel
  have e3 : PySem.dunder Operator.BitAnd.info.2 = "__and__" := by decide +kernel
  have e4 : PySem.dunder Operator.BitXor.info.2 = "__xor__" := by decide +kernel
  -- kinds and names
  refine ⟨fun σ' H1 => ∃ (kl ml : Addr) (ks ms : List Str), σ' = [some (.ref b), some (.ref kl), some (.ref ml), none, none, none, none, none, none, none, none, none, none, none, none, none, none, none, none, none, none] ∧ kl ≠ b ∧ ml ≠ b ∧ ks.length = 3 ∧ ms.length = 2 ∧ (∀ k ∈ ks, Nm k) ∧ (∀ k ∈ ms, Nm k) ∧
    SS (E := E1 Γ) H [b] H1 [] [lstR ml (ms.map V.str), lstR kl (ks.map V.str), boxR b (n + 1000)], ?_, ?_⟩
  · refine ⟨b, n + 1500, 3, rfl, hb.less (by omega), by omega, fun kl ks H1 hkl f1 b1 hc1 hl1 nd1 nm1 => ?_⟩
    have s0 : SS (E := E1 Γ) H [b] H [] [boxR b (n + 1500 + 500)] := SS.box1 (hb.less (by omega))
    have s1 := s0.drawN (q := kl) (n := n + 1500) .here f1 b1 hkl hc1 (fun z => z)
    refine ⟨b, n + 1000, 2, rfl, b1.less (by omega), by omega, fun ml ms H2 hml f2 b2 hc2 hl2 nd2 nm2 => ?_⟩
    have s2 := s1.drawN (q := ml) (n := n + 1000) (.next .here) f2 b2 hml hc2 (fun z => z)
    walk_at "di"
    refine ⟨kl, ml, ks, ms, rfl, fun e => ?_, fun e => ?_, hl1, hl2, nm1, nm2, s2⟩
    · obtain ⟨xs, e2⟩ := hb.cell
      rw [e, e2] at hkl; cases hkl
    · obtain ⟨xs, e2⟩ := b1.cell
      rw [e, e2] at hml; cases hml
  rintro σ' H1 ⟨kl, ml, ks, ms, rfl, hkb, hmb, lks, lms, nks, nms, s1⟩
  have lk : ∀ {H' : Hp} {F : List (PF (E1 Γ))} {R : List (RS (E1 Γ))}, SS (E := E1 Γ) H [b] H' F R → lstR kl (ks.map V.str) ∈ R → NmL H' b kl ks := fun s m => ⟨s.cell m, hkb, by omega, nks⟩
  have lm : ∀ {H' : Hp} {F : List (PF (E1 Γ))} {R : List (RS (E1 Γ))}, SS (E := E1 Γ) H [b] H' F R → lstR ml (ms.map V.str) ∈ R → NmL H' b ml ms := fun s m => ⟨s.cell m, hmb, by omega, nms⟩
  have okk : ∀ k ∈ ks, PyData.strOk k = true := fun k hk => Nm.ok (nks k hk)
  have okm : ∀ k ∈ ms, PyData.strOk k = true := fun k hk => Nm.ok (nms k hk)
  -- one
  refine ⟨fun σ' H2 => ∃ (p1 : Addr) (t1 : Tr), σ' = [some (.ref b), some (.ref kl), some (.ref ml), some (.ref p1), none, none, none, none, none, none, none, none, none, none, none, none, none, none, none, none, none] ∧ Gd ks ms false 5 t1 ∧ SS (E := E1 Γ) H [b] H2 [trF t1 p1] [lstR ml (ms.map V.str), lstR kl (ks.map V.str), boxR b (n + 900)], ?_, ?_⟩
  · walk_at "dn"
    refine ⟨b, 5, n + 999, rfl, by omega, by omega, s1.box (by walk_at "mem"), fun r H2 r0 r1 f2 b2 => ?_⟩
    walk_at "di"
    obtain ⟨m, hm, m1, m5⟩ : ∃ m : Nat, (1 + r) = m ∧ 1 ≤ m ∧ m ≤ 5 := ⟨(1 + r).toNat, by omega, by omega, by omega⟩
    rw [hm]
    have s2 := s1.draw (n := n + 999) (by walk_at "pick") f2 b2
    refine ⟨b, kl, ml, ks, ms, m, n + 900, false, rfl, (s2.box (by walk_at "mem")).less (by omega), lk s2 (by walk_at "mem"), lm s2 (by walk_at "mem"), m1, by omega, by omega, fun p1 t1 H3 f3 b3 hp1 g1 => ?_⟩
    exact ⟨p1, t1, rfl, g1.1.mono m5, (s2.draw (n := n + 900) (by walk_at "pick") f3 b3).add (trF t1 p1) hp1⟩
  rintro σ' H2 ⟨p1, t1, rfl, g1, s2⟩
  -- two
  refine ⟨fun σ' H2 => ∃ (p2 : Addr) (t2 : Tr), σ' = [some (.ref b), some (.ref kl), some (.ref ml), some (.ref p1), some (.ref p2), none, none, none, none, none, none, none, none, none, none, none, none, none, none, none, none] ∧ Gd ks ms false 5 t2 ∧ SS (E := E1 Γ) H [b] H2 [trF t2 p2, trF t1 p1] [lstR ml (ms.map V.str), lstR kl (ks.map V.str), boxR b (n + 800)], ?_, ?_⟩
  · walk_at "dn"
    refine ⟨b, 5, n + 899, rfl, by omega, by omega, s2.box (by walk_at "mem"), fun r H3 r0 r1 f2 b2 => ?_⟩
    walk_at "di"
    obtain ⟨m, hm, m1, m5⟩ : ∃ m : Nat, (1 + r) = m ∧ 1 ≤ m ∧ m ≤ 5 := ⟨(1 + r).toNat, by omega, by omega, by omega⟩
    rw [hm]
    have s3 := s2.draw (n := n + 899) (by walk_at "pick") f2 b2
    refine ⟨b, kl, ml, ks, ms, m, n + 800, false, rfl, (s3.box (by walk_at "mem")).less (by omega), lk s3 (by walk_at "mem"), lm s3 (by walk_at "mem"), m1, by omega, by omega, fun p2 t2 H4 f3 b3 hp2 g2 => ?_⟩
    exact ⟨p2, t2, rfl, g2.1.mono m5, (s3.draw (n := n + 800) (by walk_at "pick") f3 b3).add (trF t2 p2) hp2⟩
  clear s2
  rintro σ' H3 ⟨p2, t2, rfl, g2, s3⟩
  have g1d : t1.dep ≤ 14 := by have := g1.dep; simp only [Bool.false_eq_true, if_false] at this; omega
  have g2d : t2.dep ≤ 14 := by have := g2.dep; simp only [Bool.false_eq_true, if_false] at this; omega
  have g1s := g1.st
  have g2s := g2.st
  have g1m := g1.tm
  have g2m := g2.tm
  -- front, rear, old
  refine ⟨fun σ' H2 => ∃ (a1 a2 : Addr), σ' = [some (.ref b), some (.ref kl), some (.ref ml), some (.ref p1), some (.ref p2), some (.ref a1), some (.ref a2), none, none, none, none, none, none, none, none, none, none, none, none, none, none] ∧ SS (E := E1 Γ) H [b] H2 [lkF CL t2 a2, lkF CL t1 a1, trF t2 p2, trF t1 p1] [lstR ml (ms.map V.str), lstR kl (ks.map V.str), boxR b (n + 800)], ?_, ?_⟩
  · walk_at "dn"
    refine ⟨p1, t1, ks, ms, rfl, s3.f (trF t1 p1) (by walk_at "mem"), g1.wf, nks, nms, by omega, fun a1 H4 s4 h4 => ?_⟩
    have s5 := (s3.same s4).add (lkF CL t1 a1) h4
    refine ⟨p2, t2, ks, ms, rfl, s5.f (trF t2 p2) (by walk_at "mem"), g2.wf, nks, nms, by omega, fun a2 H5 s6 h5 => ?_⟩
    exact ⟨a1, a2, rfl, (s5.same s6).add (lkF CL t2 a2) h5⟩
  clear s3
  rintro σ' H4 ⟨a1, a2, rfl, s4⟩
  -- >>=
  refine ⟨fun σ' H2 => ∃ (a3 : Addr), σ' = [some (.ref b), some (.ref kl), some (.ref ml), some (.ref p1), some (.ref p2), some (.ref a3), some (.ref a2), some (.ref a1), none, none, none, none, none, none, none, none, none, none, none, none, none] ∧ SS (E := E1 Γ) H [b] H2 [lkF CL (.two "then" t1 t2) a3, lkF CL t2 a2, lkF CL t1 a1, trF t2 p2, trF t1 p1] [lstR ml (ms.map V.str), lstR kl (ks.map V.str), boxR b (n + 800)], ?_, ?_⟩
  · walk_at "dn"
    obtain ⟨dx, px, ex, hpx⟩ := s4.f (lkF CL t1 a1) (by walk_at "mem")
    obtain ⟨dy, py, ey, hpy⟩ := s4.f (lkF CL t2 a2) (by walk_at "mem")
    obtain ⟨cd, hcl, hl⟩ := KI.i
    refine ⟨_, rfl, ?_⟩
    exact wi_own (Γ := Γ) (n := 3) (l := 199) (op := .RShift) (sp := spBin Γ.K CL "then") (E := E0) KE.L.k hcl hl (by rw [e1]; exact m_then) (by omega) ex ey ⟨a1, a2, t1, t2, rfl, s4.f (lkF CL t1 a1) (by walk_at "mem"), s4.f (lkF CL t2 a2) (by walk_at "mem"), fun c H5 s5 hc => ⟨c, rfl, (s4.same s5).add (lkF CL (.two "then" t1 t2) c) hc⟩⟩
  clear s4
  rintro σ' H5 ⟨a3, rfl, s5⟩
  -- joint
  have two3 : ∀ {w : Str} {t s : Tr} {p r u : Addr} {F : List (PF (E1 Γ))} {R : List (RS (E1 Γ))} {H' : Hp}, SS (E := E1 Γ) H [b] H' (tupF u [.str w, .ref p, .ref r] :: F) R → trF t p ∈ F → trF s r ∈ F → SS (E := E1 Γ) H [b] H' (trF (.two w t s) u :: F) R := fun s5 h1 h2 => (s5.add (trF (.two _ _ _) _) ⟨_, _, s5.tup (.head _), s5.f _ (.tail _ h1), s5.f _ (.tail _ h2)⟩).sub (by intro x hx; cases hx with
    | head => exact .head _
    | tail _ hx => exact .tail _ (.tail _ hx))
  have one2 : ∀ {w : Str} {t : Tr} {p u : Addr} {F : List (PF (E1 Γ))} {R : List (RS (E1 Γ))} {H' : Hp}, SS (E := E1 Γ) H [b] H' (tupF u [.str w, .ref p] :: F) R → trF t p ∈ F → SS (E := E1 Γ) H [b] H' (trF (.one w t) u :: F) R := fun s5 h1 => (s5.add (trF (.one _ _) _) ⟨_, s5.tup (.head _), s5.f _ (.tail _ h1)⟩).sub (by intro x hx; cases hx with
    | head => exact .head _
    | tail _ hx => exact .tail _ (.tail _ hx))
  have jn2 : ∀ {c : Bool} {t : Tr} {C a p T : Addr} {F : List (PF (E1 Γ))} {R : List (RS (E1 Γ))} {H' : Hp}, (if c then CT else CL) = C → SS (E := E1 Γ) H [b] H' (tupF T [.ref a, .ref p] :: F) R → lkF C t a ∈ F → trF t p ∈ F → SS (E := E1 Γ) H [b] H' (jnF CL CT (c, t) T :: F) R := by
    intro c t C a p T F R H' e s5 h1 h2
    subst e
    exact (s5.add (jnF CL CT (c, t) T) ⟨_, _, s5.tup (.head _), s5.f _ (.tail _ h1), s5.f _ (.tail _ h2)⟩).sub (by intro x hx; cases hx with
      | head => exact .head _
      | tail _ hx => exact .tail _ (.tail _ hx))
  have bin : ∀ (op : Operator) (nm w : Str) (C a c : Addr) (t s : Tr) (x : Str) {F : List (PF (E1 Γ))} {R : List (RS (E1 Γ))} {H' : Hp} {Q' : VK}, KF Γ x C → PySem.dunder op.info.2 = nm → Mt Γ CX0 3 C nm (spBin Γ.K C w) [] → SS (E := E1 Γ) H [b] H' F R → lkF C t a ∈ F → lkF C s c ∈ F → (∀ d H'', SS (E := E1 Γ) H [b] H'' (lkF C (.two w t s) d :: F) R → Q' (.ref d) H'') → WO (Γ.at 199) (binaryOp op) (.ref a) (.ref c) H' Q' := by
    intro op nm w C a c t s x F R H' Q' kf en M s6 h1 h2 k
    obtain ⟨dx, px, ex, hpx⟩ := s6.f _ h1
    obtain ⟨dy, py, ey, hpy⟩ := s6.f _ h2
    exact wo_own (op := op) (sp := spBin Γ.K C w) (E := E0) kf.k (by rw [en]; exact M) (by omega) ex ey ⟨a, c, t, s, rfl, s6.f _ h1, s6.f _ h2, fun d H6 s7 hc => k d H6 ((s6.same s7).add (lkF C (.two w t s) d) hc)⟩
  refine ⟨fun σ' H2 => ∃ (l T1 T2 T3 : Addr), σ' = [some (.ref b), some (.ref kl), some (.ref ml), some (.ref p1), some (.ref p2), some (.ref a3), some (.ref a2), some (.ref a1), some (.ref l), none, none, none, none, none, none, none, none, none, none, none, none] ∧ SS (E := E1 Γ) H [b] H2 [jnF CL CT (false, .two "then" t1 t2) T1, jnF CL CT (false, .two "or" t1 t2) T2, jnF CL CT (false, .two "and" t1 t2) T3, lkF CL (.two "then" t1 t2) a3, lkF CL t2 a2, lkF CL t1 a1, trF t2 p2, trF t1 p1] [lstR l [.ref T1, .ref T2, .ref T3], lstR ml (ms.map V.str), lstR kl (ks.map V.str), boxR b (n + 800)], ?_, ?_⟩
  · walk_at "dn"
    refine ⟨szl (by simp only [List.length_cons, List.length_nil]; omega), fun u1 hu1 => ⟨szl (by simp only [List.length_cons, List.length_nil]; omega), fun T1 hT1 => ?_⟩⟩
    have s6 := jn2 (c := false) (t := .two "then" t1 t2) (C := CL) (a := a3) (p := u1) rfl ((two3 (w := "then") (t := t1) (s := t2) (p := p1) (r := p2) (s5.newT hu1) (by walk_at "mem") (by walk_at "mem")).newT hT1) (by walk_at "mem") (by walk_at "mem")
    refine bin .BitOr _ "or" CL a1 a2 t1 t2 _ KE.L e2 m_or s6 (by walk_at "mem") (by walk_at "mem") fun d2 H6 s7 => ?_
    refine ⟨szl (by simp only [List.length_cons, List.length_nil]; omega), fun u2 hu2 => ⟨szl (by simp only [List.length_cons, List.length_nil]; omega), fun T2 hT2 => ?_⟩⟩
    have s8 := jn2 (c := false) (t := .two "or" t1 t2) (C := CL) (a := d2) (p := u2) rfl ((two3 (w := "or") (t := t1) (s := t2) (p := p1) (r := p2) (s7.newT hu2) (by walk_at "mem") (by walk_at "mem")).newT hT2) (by walk_at "mem") (by walk_at "mem")
    refine bin .BitAnd _ "and" CL a1 a2 t1 t2 _ KE.L e3 m_and s8 (by walk_at "mem") (by walk_at "mem") fun d3 H7 s9 => ?_
    refine ⟨szl (by simp only [List.length_cons, List.length_nil]; omega), fun u3 hu3 => ⟨szl (by simp only [List.length_cons, List.length_nil]; omega), fun T3 hT3 => ?_⟩⟩
    have s10 := jn2 (c := false) (t := .two "and" t1 t2) (C := CL) (a := d3) (p := u3) rfl ((two3 (w := "and") (t := t1) (s := t2) (p := p1) (r := p2) (s9.newT hu3) (by walk_at "mem") (by walk_at "mem")).newT hT3) (by walk_at "mem") (by walk_at "mem")
    refine ⟨szl (by simp only [List.length_cons, List.length_nil]; omega), fun l hl => ⟨l, T1, T2, T3, rfl, (s10.newC (o := .lst [.ref T1, .ref T2, .ref T3]) hl (fun z => z)).sub (by walk_at "mems")⟩⟩
  clear s5
  rintro σ' H6 ⟨l1, T1, T2, T3, rfl, s6⟩
  -- far, near, wide, few
  walk_at "dn"
  refine ⟨b, 4, n + 799, rfl, by omega, by omega, s6.box (by walk_at "mem"), fun r H7 r0 r1 f2 b2 => ?_⟩
  walk_at "di"
  obtain ⟨m, hm, m1, m5⟩ : ∃ m : Nat, (1 + r) = m ∧ 1 ≤ m ∧ m ≤ 4 := ⟨(1 + r).toNat, by omega, by omega, by omega⟩
  rw [hm]
  have s7 := s6.draw (n := n + 799) (by walk_at "pick") f2 b2
  refine ⟨b, kl, ml, ks, ms, m, n + 700, false, rfl, (s7.box (by walk_at "mem")).less (by omega), lk s7 (by walk_at "mem"), lm s7 (by walk_at "mem"), m1, by omega, by omega, fun pf tf H8 f3 b3 hpf gf => ?_⟩
  have s8 := (s7.draw (n := n + 700) (by walk_at "pick") f3 b3).add (trF tf pf) hpf
  have gf := gf.mono m5
  have gfd : tf.dep ≤ 13 := by have := gf.dep; simp only [if_true] at this; omega
  refine ⟨szl (by simp only [List.length_cons, List.length_nil]; omega), fun pn hpn => ?_⟩
  have s9 := one2 (w := "found") (t := t2) (p := p2) (s8.newT hpn) (by walk_at "mem")
  refine ⟨fun σ' H2 => ∃ (aw af : Addr), σ' = [some (.ref b), some (.ref kl), some (.ref ml), some (.ref p1), some (.ref p2), some (.ref a3), some (.ref a2), some (.ref a1), some (.ref l1), some (.ref pf), some (.ref pn), some (.ref aw), some (.ref af), none, none, none, none, none, none, none, none] ∧ SS (E := E1 Γ) H [b] H2 [lkF CT (.one "found" t2) af, lkF CT tf aw, trF (.one "found" t2) pn, trF tf pf, jnF CL CT (false, .two "then" t1 t2) T1, jnF CL CT (false, .two "or" t1 t2) T2, jnF CL CT (false, .two "and" t1 t2) T3, lkF CL (.two "then" t1 t2) a3, lkF CL t2 a2, lkF CL t1 a1, trF t2 p2, trF t1 p1] [lstR l1 [.ref T1, .ref T2, .ref T3], lstR ml (ms.map V.str), lstR kl (ks.map V.str), boxR b (n + 700)], ?_, ?_⟩
  · walk_at "di"
    refine ⟨pf, tf, ks, ms, rfl, s9.f (trF tf pf) (by walk_at "mem"), gf.wf, nks, nms, by omega, fun aw H9 sh9 hw => ?_⟩
    have s10 := (s9.same sh9).add (lkF CT tf aw) hw
    obtain ⟨dx, px, ex, _⟩ := s10.f (lkF CL t2 a2) (by walk_at "mem")
    refine ⟨3, CL, a2, dx, _, spUn Γ.K CL CT "found", [], E0, ⟨m_found.ex⟩, by omega, rfl, ex, by rfl, a2, t2, rfl, s10.f (lkF CL t2 a2) (by walk_at "mem"), fun af H10 sh10 hc => ?_⟩
    walk_at "di"
    exact ⟨aw, af, rfl, ((s10.same sh10).add (lkF CT (.one "found" t2) af) hc).sub (by walk_at "mems")⟩
  clear s6 s7 s8 s9
  rintro σ' H10 ⟨aw, af, rfl, s7⟩
  have gfs := gf.st
  have gfm := gf.tm
  refine ⟨fun σ' H2 => ∃ (l T4 T5 T6 : Addr), σ' = [some (.ref b), some (.ref kl), some (.ref ml), some (.ref p1), some (.ref p2), some (.ref a3), some (.ref a2), some (.ref a1), some (.ref l), some (.ref pf), some (.ref pn), some (.ref aw), some (.ref af), none, none, none, none, none, none, none, none] ∧ SS (E := E1 Γ) H [b] H2 [jnF CL CT (false, .two "when" t1 tf) T4, jnF CL CT (true, .two "same" t1 t2) T5, jnF CL CT (true, .one "found" t2) T6, lkF CT (.one "found" t2) af, lkF CT tf aw, trF (.one "found" t2) pn, trF tf pf, jnF CL CT (false, .two "then" t1 t2) T1, jnF CL CT (false, .two "or" t1 t2) T2, jnF CL CT (false, .two "and" t1 t2) T3, lkF CL (.two "then" t1 t2) a3, lkF CL t2 a2, lkF CL t1 a1, trF t2 p2, trF t1 p1] [lstR l [.ref T1, .ref T2, .ref T3, .ref T4, .ref T5, .ref T6], lstR ml (ms.map V.str), lstR kl (ks.map V.str), boxR b (n + 700)], ?_, ?_⟩
  · walk_at "dn"
    obtain ⟨dxd4, pxd4, exd4, _⟩ := s7.f (lkF CL t1 a1) (by walk_at "mem")
    refine ⟨3, CL, a1, dxd4, _, spWith Γ.K CL CT CL "when", [], E0, ⟨m_when.ex⟩, by omega, rfl, exd4, by rfl, a1, aw, t1, tf, rfl, s7.f (lkF CL t1 a1) (by walk_at "mem"), s7.f (lkF CT tf aw) (by walk_at "mem"), fun d4 H8 shd4 hcd4 => ?_⟩
    have s8 := (s7.same shd4).add (lkF CL (.two "when" t1 tf) d4) hcd4
    refine ⟨szl (by simp only [List.length_cons, List.length_nil]; omega), fun u4 hu4 => ⟨szl (by simp only [List.length_cons, List.length_nil]; omega), fun T4 hT4 => ?_⟩⟩
    have s9 := jn2 (c := false) (t := .two "when" t1 tf) (C := CL) (a := d4) (p := u4) rfl ((two3 (w := "when") (t := t1) (s := tf) (p := p1) (r := pf) (s8.newT hu4) (by walk_at "mem") (by walk_at "mem")).newT hT4) (by walk_at "mem") (by walk_at "mem")
    obtain ⟨dxd5, pxd5, exd5, _⟩ := s9.f (lkF CL t1 a1) (by walk_at "mem")
    refine ⟨3, CL, a1, dxd5, _, spWith Γ.K CL CL CT "same", [], E0, ⟨m_same.ex⟩, by omega, rfl, exd5, by rfl, a1, a2, t1, t2, rfl, s9.f (lkF CL t1 a1) (by walk_at "mem"), s9.f (lkF CL t2 a2) (by walk_at "mem"), fun d5 H9 shd5 hcd5 => ?_⟩
    have s10 := (s9.same shd5).add (lkF CT (.two "same" t1 t2) d5) hcd5
    refine ⟨szl (by simp only [List.length_cons, List.length_nil]; omega), fun u5 hu5 => ⟨szl (by simp only [List.length_cons, List.length_nil]; omega), fun T5 hT5 => ?_⟩⟩
    have s11 := jn2 (c := true) (t := .two "same" t1 t2) (C := CT) (a := d5) (p := u5) rfl ((two3 (w := "same") (t := t1) (s := t2) (p := p1) (r := p2) (s10.newT hu5) (by walk_at "mem") (by walk_at "mem")).newT hT5) (by walk_at "mem") (by walk_at "mem")
    refine ⟨szl (by simp only [List.length_cons, List.length_nil]; omega), fun T6 hT6 => ?_⟩
    have s12 := jn2 (c := true) (t := .one "found" t2) (C := CT) (a := af) (p := pn) rfl (s11.newT hT6) (by walk_at "mem") (by walk_at "mem")
    refine ⟨szl (by simp only [List.length_cons, List.length_nil]; omega), fun lx hlx => ?_⟩
    have sc := s12.newC (o := .lst [.ref T4, .ref T5, .ref T6]) hlx (fun z => z)
    refine wo_cat (xs := [.ref T1, .ref T2, .ref T3]) (ys := [.ref T4, .ref T5, .ref T6]) (sc.cell (by walk_at "mem")) (sc.cell (by walk_at "mem")) (szl (by simp only [List.length_cons, List.length_nil]; omega)) fun l hl => ⟨l, T4, T5, T6, rfl, ((sc.newC (o := .lst ([.ref T1, .ref T2, .ref T3] ++ [.ref T4, .ref T5, .ref T6])) hl (fun z => z)).sub (by walk_at "mems")).subl (by walk_at "subl")⟩
  clear s7
  rintro σ' H8 ⟨l2, T4, T5, T6, rfl, s8⟩
  refine ⟨fun σ' H2 => ∃ (l T7 T8 T9 : Addr), σ' = [some (.ref b), some (.ref kl), some (.ref ml), some (.ref p1), some (.ref p2), some (.ref a3), some (.ref a2), some (.ref a1), some (.ref l), some (.ref pf), some (.ref pn), some (.ref aw), some (.ref af), none, none, none, none, none, none, none, none] ∧ SS (E := E1 Γ) H [b] H2 [jnF CL CT (true, .two "and" tf (.one "found" t2)) T7, jnF CL CT (true, .two "or" (.one "found" t2) tf) T8, jnF CL CT (true, .one "not" tf) T9, jnF CL CT (false, .two "when" t1 tf) T4, jnF CL CT (true, .two "same" t1 t2) T5, jnF CL CT (true, .one "found" t2) T6, lkF CT (.one "found" t2) af, lkF CT tf aw, trF (.one "found" t2) pn, trF tf pf, jnF CL CT (false, .two "then" t1 t2) T1, jnF CL CT (false, .two "or" t1 t2) T2, jnF CL CT (false, .two "and" t1 t2) T3, lkF CL (.two "then" t1 t2) a3, lkF CL t2 a2, lkF CL t1 a1, trF t2 p2, trF t1 p1] [lstR l [.ref T1, .ref T2, .ref T3, .ref T4, .ref T5, .ref T6, .ref T7, .ref T8, .ref T9], lstR ml (ms.map V.str), lstR kl (ks.map V.str), boxR b (n + 700)], ?_, ?_⟩
  · walk_at "dn"
    refine bin .BitAnd _ "and" CT aw af tf (.one "found" t2) _ KE.T e3 t_and s8 (by walk_at "mem") (by walk_at "mem") fun d7 H9 s9 => ?_
    refine ⟨szl (by simp only [List.length_cons, List.length_nil]; omega), fun u7 hu7 => ⟨szl (by simp only [List.length_cons, List.length_nil]; omega), fun T7 hT7 => ?_⟩⟩
    have s10 := jn2 (c := true) (t := .two "and" tf (.one "found" t2)) (C := CT) (a := d7) (p := u7) rfl ((two3 (w := "and") (t := tf) (s := .one "found" t2) (p := pf) (r := pn) (s9.newT hu7) (by walk_at "mem") (by walk_at "mem")).newT hT7) (by walk_at "mem") (by walk_at "mem")
    refine bin .BitOr _ "or" CT af aw (.one "found" t2) tf _ KE.T e2 t_or s10 (by walk_at "mem") (by walk_at "mem") fun d8 H10 s11 => ?_
    refine ⟨szl (by simp only [List.length_cons, List.length_nil]; omega), fun u8 hu8 => ⟨szl (by simp only [List.length_cons, List.length_nil]; omega), fun T8 hT8 => ?_⟩⟩
    have s12 := jn2 (c := true) (t := .two "or" (.one "found" t2) tf) (C := CT) (a := d8) (p := u8) rfl ((two3 (w := "or") (t := .one "found" t2) (s := tf) (p := pn) (r := pf) (s11.newT hu8) (by walk_at "mem") (by walk_at "mem")).newT hT8) (by walk_at "mem") (by walk_at "mem")
    obtain ⟨dx9, px9, ex9, _⟩ := s12.f (lkF CT tf aw) (by walk_at "mem")
    refine wu_invO (E := E0) (sp := spUn Γ.K CT CT "not") m_not (by omega) ex9 ⟨aw, tf, rfl, s12.f (lkF CT tf aw) (by walk_at "mem"), fun d9 H11 sh9 hc9 => ?_⟩
    have s13 := (s12.same sh9).add (lkF CT (.one "not" tf) d9) hc9
    refine ⟨szl (by simp only [List.length_cons, List.length_nil]; omega), fun u9 hu9 => ⟨szl (by simp only [List.length_cons, List.length_nil]; omega), fun T9 hT9 => ?_⟩⟩
    have s14 := jn2 (c := true) (t := .one "not" tf) (C := CT) (a := d9) (p := u9) rfl ((one2 (w := "not") (t := tf) (p := pf) (s13.newT hu9) (by walk_at "mem")).newT hT9) (by walk_at "mem") (by walk_at "mem")
    refine ⟨szl (by simp only [List.length_cons, List.length_nil]; omega), fun lx hlx => ?_⟩
    have sc := s14.newC (o := .lst [.ref T7, .ref T8, .ref T9]) hlx (fun z => z)
    refine wo_cat (xs := [.ref T1, .ref T2, .ref T3, .ref T4, .ref T5, .ref T6]) (ys := [.ref T7, .ref T8, .ref T9]) (sc.cell (by walk_at "mem")) (sc.cell (by walk_at "mem")) (szl (by simp only [List.length_cons, List.length_nil]; omega)) fun l hl => ⟨l, T7, T8, T9, rfl, ((sc.newC (o := .lst ([.ref T1, .ref T2, .ref T3, .ref T4, .ref T5, .ref T6] ++ [.ref T7, .ref T8, .ref T9])) hl (fun z => z)).sub (by walk_at "mems")).subl (by walk_at "subl")⟩
  clear s8
  rintro σ' H9 ⟨l3, T7, T8, T9, rfl, s9⟩
  refine ⟨fun σ' H2 => ∃ (l : Addr) (Ts : List Addr) (es : List (Bool × Tr)), σ' = [some (.ref b), some (.ref kl), some (.ref ml), some (.ref p1), some (.ref p2), some (.ref a3), some (.ref a2), some (.ref a1), some (.ref l), some (.ref pf), some (.ref pn), some (.ref aw), some (.ref af), none, none, none, none, none, none, none, none] ∧ es.length = 13 ∧ Ts.length = 13 ∧ (∀ e ∈ es, GE ks ms e) ∧ SS (E := E1 Γ) H [b] H2 [jsF CL CT es Ts, lkF CT (.one "found" t2) af, lkF CL t2 a2, lkF CL t1 a1] [lstR l (Ts.map V.ref), lstR ml (ms.map V.str), lstR kl (ks.map V.str), boxR b (n + 700)], ?_, ?_⟩
  · walk_at "dn"
    refine bin .BitXor _ "xor" CT aw af tf (.one "found" t2) _ KE.T e4 t_xor s9 (by walk_at "mem") (by walk_at "mem") fun d10 H10 s10 => ?_
    refine ⟨szl (by simp only [List.length_cons, List.length_nil]; omega), fun u10 hu10 => ⟨szl (by simp only [List.length_cons, List.length_nil]; omega), fun T10 hT10 => ?_⟩⟩
    have s11 := jn2 (c := true) (t := .two "xor" tf (.one "found" t2)) (C := CT) (a := d10) (p := u10) rfl ((two3 (w := "xor") (t := tf) (s := .one "found" t2) (p := pf) (r := pn) (s10.newT hu10) (by walk_at "mem") (by walk_at "mem")).newT hT10) (by walk_at "mem") (by walk_at "mem")
    refine ⟨szl (by simp only [List.length_cons, List.length_nil]; omega), fun T11 hT11 => ?_⟩
    have s12 := jn2 (c := false) (t := t1) (C := CL) (a := a1) (p := p1) rfl (s11.newT hT11) (by walk_at "mem") (by walk_at "mem")
    refine ⟨szl (by simp only [List.length_cons, List.length_nil]; omega), fun T12 hT12 => ?_⟩
    have s13 := jn2 (c := false) (t := t2) (C := CL) (a := a2) (p := p2) rfl (s12.newT hT12) (by walk_at "mem") (by walk_at "mem")
    refine ⟨szl (by simp only [List.length_cons, List.length_nil]; omega), fun T13 hT13 => ?_⟩
    have s14 := jn2 (c := true) (t := tf) (C := CT) (a := aw) (p := pf) rfl (s13.newT hT13) (by walk_at "mem") (by walk_at "mem")
    refine ⟨szl (by simp only [List.length_cons, List.length_nil]; omega), fun lx hlx => ?_⟩
    have sc := s14.newC (o := .lst [.ref T10, .ref T11, .ref T12, .ref T13]) hlx (fun z => z)
    refine wo_cat (xs := [.ref T1, .ref T2, .ref T3, .ref T4, .ref T5, .ref T6, .ref T7, .ref T8, .ref T9]) (ys := [.ref T10, .ref T11, .ref T12, .ref T13]) (sc.cell (by walk_at "mem")) (sc.cell (by walk_at "mem")) (szl (by simp only [List.length_cons, List.length_nil]; omega)) fun l hl => ?_
    have sd := ((sc.newC (o := .lst ([.ref T1, .ref T2, .ref T3, .ref T4, .ref T5, .ref T6, .ref T7, .ref T8, .ref T9] ++ [.ref T10, .ref T11, .ref T12, .ref T13])) hl (fun z => z)).subl (R' := [lstR l [.ref T1, .ref T2, .ref T3, .ref T4, .ref T5, .ref T6, .ref T7, .ref T8, .ref T9, .ref T10, .ref T11, .ref T12, .ref T13], lstR ml (ms.map V.str), lstR kl (ks.map V.str), boxR b (n + 700)]) (by walk_at "subl"))
    have se := (sd.add (jsF CL CT [(false, .two "then" t1 t2), (false, .two "or" t1 t2), (false, .two "and" t1 t2), (false, .two "when" t1 tf), (true, .two "same" t1 t2), (true, .one "found" t2), (true, .two "and" tf (.one "found" t2)), (true, .two "or" (.one "found" t2) tf), (true, .one "not" tf), (true, .two "xor" tf (.one "found" t2)), (false, t1), (false, t2), (true, tf)] [T1, T2, T3, T4, T5, T6, T7, T8, T9, T10, T11, T12, T13]) (jsF_of fun e T h => by
      simp only [List.zip_cons_cons, List.zip_nil_left, List.mem_cons, List.not_mem_nil, or_false, Prod.mk.injEq] at h
      rcases h with ⟨⟨rfl, rfl⟩, rfl⟩ | ⟨⟨rfl, rfl⟩, rfl⟩ | ⟨⟨rfl, rfl⟩, rfl⟩ | ⟨⟨rfl, rfl⟩, rfl⟩ | ⟨⟨rfl, rfl⟩, rfl⟩ | ⟨⟨rfl, rfl⟩, rfl⟩ | ⟨⟨rfl, rfl⟩, rfl⟩ | ⟨⟨rfl, rfl⟩, rfl⟩ | ⟨⟨rfl, rfl⟩, rfl⟩ | ⟨⟨rfl, rfl⟩, rfl⟩ | ⟨⟨rfl, rfl⟩, rfl⟩ | ⟨⟨rfl, rfl⟩, rfl⟩ | ⟨⟨rfl, rfl⟩, rfl⟩ <;> exact sd.f (jnF CL CT _ _) (by walk_at "mem"))).sub (F' := [jsF CL CT [(false, .two "then" t1 t2), (false, .two "or" t1 t2), (false, .two "and" t1 t2), (false, .two "when" t1 tf), (true, .two "same" t1 t2), (true, .one "found" t2), (true, .two "and" tf (.one "found" t2)), (true, .two "or" (.one "found" t2) tf), (true, .one "not" tf), (true, .two "xor" tf (.one "found" t2)), (false, t1), (false, t2), (true, tf)] [T1, T2, T3, T4, T5, T6, T7, T8, T9, T10, T11, T12, T13], lkF CT (.one "found" t2) af, lkF CL t2 a2, lkF CL t1 a1]) (by walk_at "mems")
    refine ⟨l, [T1, T2, T3, T4, T5, T6, T7, T8, T9, T10, T11, T12, T13], [(false, .two "then" t1 t2), (false, .two "or" t1 t2), (false, .two "and" t1 t2), (false, .two "when" t1 tf), (true, .two "same" t1 t2), (true, .one "found" t2), (true, .two "and" tf (.one "found" t2)), (true, .two "or" (.one "found" t2) tf), (true, .one "not" tf), (true, .two "xor" tf (.one "found" t2)), (false, t1), (false, t2), (true, tf)], rfl, rfl, rfl, ?_, se⟩
    have w1 := g1.wf
    have w2 := g2.wf
    have wf := gf.wf
    simp only [List.forall_mem_cons]
    refine ⟨?_, ?_, ?_, ?_, ?_, ?_, ?_, ?_, ?_, ?_, ?_, ?_, ?_, fun _ h => nomatch h⟩
    · exact ⟨.inl ⟨.inl rfl, w1, w2⟩, by simp only [Tr.dep]; omega, by simp only [Tr.told, List.length_append]; omega, by simp only [Tr.told, List.length_append]; omega⟩
    · exact ⟨.inl ⟨.inr (.inl rfl), w1, w2⟩, by simp only [Tr.dep]; omega, by simp only [Tr.told, List.length_append]; omega, by simp only [Tr.told, List.length_append]; omega⟩
    · exact ⟨.inl ⟨.inr (.inr rfl), w1, w2⟩, by simp only [Tr.dep]; omega, by simp only [Tr.told, List.length_append]; omega, by simp only [Tr.told, List.length_append]; omega⟩
    · exact ⟨.inr ⟨rfl, w1, wf⟩, by simp only [Tr.dep]; omega, by simp only [Tr.told, List.length_append]; omega, by simp only [Tr.told, List.length_append]; omega⟩
    · exact ⟨.inl ⟨rfl, w1, w2⟩, by simp only [Tr.dep]; omega, by simp only [Tr.told, List.length_append]; omega, by simp only [Tr.told, List.length_append]; omega⟩
    · exact ⟨.inl ⟨rfl, w2⟩, by simp only [Tr.dep]; omega, by simp only [Tr.told, List.length_append]; omega, by simp only [Tr.told, List.length_append]; omega⟩
    · exact ⟨.inr ⟨.inl rfl, wf, .inl ⟨rfl, w2⟩⟩, by simp only [Tr.dep]; omega, by simp only [Tr.told, List.length_append]; omega, by simp only [Tr.told, List.length_append]; omega⟩
    · exact ⟨.inr ⟨.inr (.inl rfl), .inl ⟨rfl, w2⟩, wf⟩, by simp only [Tr.dep]; omega, by simp only [Tr.told, List.length_append]; omega, by simp only [Tr.told, List.length_append]; omega⟩
    · exact ⟨.inr ⟨rfl, wf⟩, by simp only [Tr.dep]; omega, by simp only [Tr.told, List.length_append]; omega, by simp only [Tr.told, List.length_append]; omega⟩
    · exact ⟨.inr ⟨.inr (.inr rfl), wf, .inl ⟨rfl, w2⟩⟩, by simp only [Tr.dep]; omega, by simp only [Tr.told, List.length_append]; omega, by simp only [Tr.told, List.length_append]; omega⟩
    · exact ⟨w1, by simp only [Tr.dep]; omega, by simp only [Tr.told, List.length_append]; omega, by simp only [Tr.told, List.length_append]; omega⟩
    · exact ⟨w2, by simp only [Tr.dep]; omega, by simp only [Tr.told, List.length_append]; omega, by simp only [Tr.told, List.length_append]; omega⟩
    · exact ⟨wf, by simp only [Tr.dep]; omega, by simp only [Tr.told, List.length_append]; omega, by simp only [Tr.told, List.length_append]; omega⟩
  clear s9
  rintro σ' H10 ⟨l, Ts, es, rfl, les, lTs, ges, s10⟩
  have okE : ∀ e ∈ es, e.2.ok := fun e he => Tr.wf_ok okk okm e.2 e.1 (ges e he).wf
  have js : ∀ {H' : Hp} {F' : List (PF (E1 Γ))} {R : List (RS (E1 Γ))}, SS (E := E1 Γ) H [b] H' F' R → jsF CL CT es Ts ∈ F' → ∀ (i : Nat) (x : V), (Ts.map V.ref)[i]? = some x → ∃ e T, e ∈ es ∧ x = .ref T ∧ Jn Γ CL CT e T H' := by
    intro H' F' R s11 hm i x hx
    rw [List.getElem?_map] at hx
    obtain ⟨T, hT, rfl⟩ := Option.map_eq_some_iff.mp hx
    have hi := (List.getElem?_eq_some_iff.mp hT).1
    obtain ⟨e, he⟩ : ∃ e, es[i]? = some e := ⟨_, List.getElem?_eq_getElem (by omega)⟩
    exact ⟨e, T, List.mem_of_getElem? he, rfl, s11.f _ hm i e T he hT⟩
  have kc : ∀ c : Bool, ∃ x, KC Γ x (if c then CT else CL) 60 := fun c => by
    cases c
    · exact ⟨_, kL⟩
    · exact ⟨_, kT⟩
  -- all shown
  refine ⟨fun σ' H2 => σ' = [some (.ref b), some (.ref kl), some (.ref ml), some (.ref p1), some (.ref p2), some (.ref a3), some (.ref a2), some (.ref a1), some (.ref l), some (.ref pf), some (.ref pn), some (.ref aw), some (.ref af), none, none, none, none, none, none, none, none] ∧ SS (E := E1 Γ) H [b] H2 [jsF CL CT es Ts, lkF CT (.one "found" t2) af, lkF CL t2 a2, lkF CL t1 a1] [lstR l (Ts.map V.ref), lstR ml (ms.map V.str), lstR kl (ks.map V.str), boxR b (n + 700)], ?_, ?_⟩
  · walk_at "dn"
    refine ⟨l, rfl, ⟨_, SqL.of (s10.cell (by walk_at "mem"))⟩, fun D hD => ?_⟩
    refine lq_it walk_list (fun i acc H' => SS (E := E1 Γ) H [b] H' [jsF CL CT es Ts, lkF CT (.one "found" t2) af, lkF CL t2 a2, lkF CL t1 a1] [lstR D acc, lstR l (Ts.map V.ref), lstR ml (ms.map V.str), lstR kl (ks.map V.str), boxR b (n + 700)] ∧ acc = (List.replicate i true).map V.bl) ⟨s10.newC (o := .lst []) hD (fun z => z), rfl⟩ (fun _ _ _ _ h => SqL.of (h.1.cell (.tail _ (.head _)))) ?_ ?_
    · rintro i x acc H11 H12 hi hl ⟨s, ha⟩ ⟨rfl, hx2⟩
      obtain ⟨e, T, he, rfl, a, p, hT, ha1, hp1⟩ := js s (.head _) i x hx2
      refine gt_of hT rfl ?_
      walk_at "dn"
      obtain ⟨nm, kce⟩ := kc e.1
      refine ⟨rfl, nm, _, a, p, e.2, rfl, kce, ha1, hp1, okE e he, Nat.le_trans (ges e he).dep (by omega), (ges e he).st, (ges e he).tm, fun H13 sh => ?_⟩
      have s2 := s.same sh
      refine lq_add s2 hl (lt_size (by rw [List.length_map] at hi; omega)) ⟨_, lq_len hl, s2.app, ?_⟩
      rw [ha, List.replicate_succ', List.map_append]
      rfl
    · rintro acc H11 hl ⟨s, ha⟩
      subst ha
      refine wc_all (SqL.of (s.cell (.head _))) ?_
      rw [show (List.replicate (Ts.map V.ref).length true).all id = true from by simp]
      walk_at "di"
      exact ⟨rfl, s.drop⟩
  clear s10
  rintro σ' H11 ⟨rfl, s11⟩
  have cmp : ∀ (e e' : Bool × Tr) (a a' : Addr) (Q' : VK), e ∈ es → e' ∈ es → LkP Γ.K H11 (if e.1 then CT else CL) e.2 a → LkP Γ.K H11 (if e'.1 then CT else CL) e'.2 a' → Q' (.bl (decide (e = e'))) H11 → WO (Γ.at 199) (compareOp .Eq) (.ref a) (.ref a') H11 Q' := by
    intro e e' a a' Q' he he' ha ha' hP
    obtain ⟨c, t⟩ := e
    obtain ⟨c', t'⟩ := e'
    have d1 : t.dep ≤ 64 := Nat.le_trans (ges _ he).dep (by omega)
    have d2 : t'.dep ≤ 64 := Nat.le_trans (ges _ he').dep (by omega)
    obtain ⟨dx, px, ex, _⟩ := id ha
    obtain ⟨dy, py, ey, _⟩ := id ha'
    have deq : decide ((c, t) = (c', t')) = (decide (c = c') && decide (t = t')) := by
      by_cases h1 : c = c' <;> by_cases h2 : t = t' <;> simp [h1, h2]
    rw [deq] at hP
    cases c <;> cases c' <;> simp only [Bool.false_eq_true, if_false, if_true] at ha ha' ex ey
    · exact wo_eqO m_eqL (by omega) (KE.L.ty ey) KE.nLL ex (E := E0) (sp := spEqC Γ.K CL) ⟨a, t, _, rfl, ha, okE _ he, d1, .inl ⟨a', t', rfl, ha', okE _ he', d2, by simpa using hP⟩⟩
    · exact wo_eqO m_eqL (by omega) (KE.T.ty ey) KE.nLT ex (E := E0) (sp := spEqC Γ.K CL) ⟨a, t, _, rfl, ha, okE _ he, d1, .inr ⟨_, KE.T.ty ey, KE.TL, by simpa using hP⟩⟩
    · exact wo_eqO m_eqT (by omega) (KE.L.ty ey) KE.nTL ex (E := E0) (sp := spEqC Γ.K CT) ⟨a, t, _, rfl, ha, okE _ he, d1, .inr ⟨_, KE.L.ty ey, KE.LT, by simpa using hP⟩⟩
    · exact wo_eqO m_eqT (by omega) (KE.T.ty ey) KE.nTT ex (E := E0) (sp := spEqC Γ.K CT) ⟨a, t, _, rfl, ha, okE _ he, d1, .inl ⟨a', t', rfl, ha', okE _ he', d2, by simpa using hP⟩⟩
  have same2 : ∀ e e' : Bool × Tr, e ∈ es → e' ∈ es → e'.2 = e.2 → e = e' := by
    rintro ⟨c, t⟩ ⟨c', t'⟩ he he' h
    obtain rfl : t' = t := h
    have w1 := (ges _ he).wf
    have w2 := (ges _ he').wf
    cases c <;> cases c'
    · rfl
    · exact (Tr.wf_ne w1 w2).elim
    · exact (Tr.wf_ne w2 w1).elim
    · rfl
  -- each beside each
  refine ⟨fun σ' H2 => H2 = H11 ∧ ∃ c13 c14 c15 c16, σ' = [some (.ref b), some (.ref kl), some (.ref ml), some (.ref p1), some (.ref p2), some (.ref a3), some (.ref a2), some (.ref a1), some (.ref l), some (.ref pf), some (.ref pn), some (.ref aw), some (.ref af), c13, c14, c15, c16, none, none, none, none], ?_, ?_⟩
  · walk_at "dn"
    refine ⟨l, rfl, ⟨_, SqL.of (s11.cell (by walk_at "mem"))⟩, ?_⟩
    refine lp_list (xs := Ts.map V.ref) (fun i σ H' => H' = H11 ∧ ∃ c13 c14 c15 c16, σ = [some (.ref b), some (.ref kl), some (.ref ml), some (.ref p1), some (.ref p2), some (.ref a3), some (.ref a2), some (.ref a1), some (.ref l), some (.ref pf), some (.ref pn), some (.ref aw), some (.ref af), c13, c14, c15, c16, none, none, none, none]) ⟨rfl, _, _, _, _, rfl⟩ (fun i σ H' hi ⟨h, _⟩ => by subst h; exact SqL.of (s11.cell (by walk_at "mem"))) ?_ (fun σ H' h => h)
    rintro i x σ H12 hi ⟨rfl, c13, c14, c15, c16, rfl⟩
    obtain ⟨e, T, he, rfl, a, p, hT, ha1, hp1⟩ := js s11 (.head _) i x hi
    refine gt_of hT rfl ?_
    walk_at "dn"
    refine ⟨l, rfl, ⟨_, SqL.of (s11.cell (by walk_at "mem"))⟩, ?_⟩
    refine lp_list (xs := Ts.map V.ref) (fun i σ H' => H' = H12 ∧ ∃ c15 c16, σ = [some (.ref b), some (.ref kl), some (.ref ml), some (.ref p1), some (.ref p2), some (.ref a3), some (.ref a2), some (.ref a1), some (.ref l), some (.ref pf), some (.ref pn), some (.ref aw), some (.ref af), some (.ref a), some (.ref p), c15, c16, none, none, none, none]) ⟨rfl, _, _, rfl⟩ (fun i σ H' hi ⟨h, _⟩ => by subst h; exact SqL.of (s11.cell (by walk_at "mem"))) ?_ (fun σ H' ⟨h, c15, c16, h2⟩ => ⟨h, _, _, _, _, h2⟩)
    rintro j y σ H13 hj ⟨rfl, c15, c16, rfl⟩
    obtain ⟨e', T', he', rfl, a', p', hT', ha2, hp2⟩ := js s11 (.head _) j y hj
    refine gt_of hT' rfl ?_
    walk_at "dn"
    have d1 : e.2.dep ≤ 64 := Nat.le_trans (ges _ he).dep (by omega)
    have d2 : e'.2.dep ≤ 64 := Nat.le_trans (ges _ he').dep (by omega)
    refine wo_eqT hp2 hp1 (okE _ he') (okE _ he) d2 d1 ?_
    walk_at "di"
    refine br_d (fun h => ?_) (fun h => ?_)
    · obtain rfl := same2 e e' he he' h
      refine cmp e e a a' _ he he ha1 ha2 ?_
      rw [decide_eq_true rfl]
      walk_at "di"
      refine wo_neT hp2 hp1 (okE _ he') (okE _ he) d2 d1 ?_
      rw [decide_eq_true rfl]
      walk_at "di"
      exact ⟨rfl, _, _, rfl⟩
    · refine wo_neT hp2 hp1 (okE _ he') (okE _ he) d2 d1 ?_
      rw [decide_eq_false h]
      walk_at "di"
      refine cmp e e' a a' _ he he' ha1 ha2 ?_
      rw [decide_eq_false (fun z => h (by rw [z]))]
      walk_at "di"
      exact ⟨rfl, _, _, rfl⟩
  rintro σ' H12 ⟨rfl, c13, c14, c15, c16, rfl⟩
  clear cmp same2 kc js ges
  have s12 := s11.sub (F' := [lkF CT (.one "found" t2) af, lkF CL t2 a2, lkF CL t1 a1]) (by walk_at "mems")
  clear s11
  -- a walk and its way back
  walk_at "dn"
  refine ⟨b, kl, ml, ks, ms, 1, n + 600, false, rfl, (s12.box (by walk_at "mem")).less (by omega), lk s12 (by walk_at "mem"), lm s12 (by walk_at "mem"), by omega, by omega, by omega, fun pw tw H13 f13 b13 hpw ⟨gw, hw⟩ => ?_⟩
  have s13 := (s12.draw (n := n + 600) (by walk_at "pick") f13 b13).add (trF tw pw) hpw
  have wkw := (hw rfl).1
  walk_at "di"
  refine ⟨szl (by simp only [List.length_cons, List.length_nil]; omega), fun ph hph => ?_⟩
  have s14 := (s13.newT hph).add (trF (.z "here") ph) (SqT.of upd_same)
  refine ⟨b, kl, true, ks, n + 500, rfl, (s14.box (by walk_at "mem")).less (by omega), lk s14 (by walk_at "mem"), fun px tx H15 f15 b15 hpx ⟨wx, _, gx⟩ => ⟨szl (by simp only [List.length_cons, List.length_nil]; omega), fun pt hpt => ?_⟩⟩
  have s15 := two3 (w := "then") (t := .z "here") (s := tx) (p := ph) (r := px) (((s14.draw (n := n + 500) (by walk_at "pick") f15 b15).add (trF tx px) hpx).newT hpt) (by walk_at "mem") (by walk_at "mem")
  walk_at "di"
  refine ⟨b, kl, false, ks, n + 400, rfl, (s15.box (by walk_at "mem")).less (by omega), lk s15 (by walk_at "mem"), fun py ty H16 f16 b16 hpy ⟨wy, _, gy⟩ => ⟨szl (by simp only [List.length_cons, List.length_nil]; omega), fun pi hpi => ⟨szl (by simp only [List.length_cons, List.length_nil]; omega), fun pg hpg => ?_⟩⟩⟩
  have s16 := two3 (w := "then") (t := tw) (s := ty) (p := pw) (r := py) (((s15.draw (n := n + 400) (by walk_at "pick") f16 b16).add (trF ty py) hpy).newT hpi) (by walk_at "mem") (by walk_at "mem")
  have s17 := two3 (w := "then") (t := .two "then" tw ty) (s := .two "then" (.z "here") tx) (p := pi) (r := pt) (s16.newT hpg) (by walk_at "mem") (by walk_at "mem")
  have gx := gx ms
  have gy := gy ms
  obtain ⟨tg, htg⟩ : ∃ tg, tg = Tr.two "then" (.two "then" tw ty) (.two "then" (.z "here") tx) := ⟨_, rfl⟩
  have wg : tg.wf ks ms false := by rw [htg]; exact .inl ⟨.inl rfl, .inl ⟨.inl rfl, gw.wf, gy.wf⟩, .inl ⟨.inl rfl, rfl, gx.wf⟩⟩
  have kg : tg.walk := by rw [htg]; exact ⟨rfl, ⟨rfl, wkw, wy⟩, ⟨rfl, rfl, wx⟩⟩
  have dg : tg.dep ≤ 6 := by
    have h1 := gw.dep
    have h2 := gy.dep
    have h3 := gx.dep
    simp only [Bool.false_eq_true, if_false] at h1 h2 h3
    rw [htg]; simp only [Tr.dep]; omega
  have og : tg.ok := Tr.wf_ok okk okm tg false wg
  have s18 := s17.sub (F' := [trF (.two "then" (.two "then" tw ty) (.two "then" (.z "here") tx)) pg, lkF CT (.one "found" t2) af, lkF CL t2 a2, lkF CL t1 a1]) (by walk_at "mems")
  rw [← htg] at s18
  clear s12 s13 s14 s15 s16 s17
  walk_at "di"
  refine ⟨fun σ' H2 => ∃ ao, σ' = [some (.ref b), some (.ref kl), some (.ref ml), some (.ref p1), some (.ref p2), some (.ref a3), some (.ref a2), some (.ref a1), some (.ref l), some (.ref pf), some (.ref pn), some (.ref aw), some (.ref af), some (.ref ao), c14, c15, c16, some (.ref pw), some (.ref pt), some (.ref pg), none] ∧ SS (E := E1 Γ) H [b] H2 [lkF CL tg ao, trF tg pg, lkF CT (.one "found" t2) af, lkF CL t2 a2, lkF CL t1 a1] [lstR l (Ts.map V.ref), lstR ml (ms.map V.str), lstR kl (ks.map V.str), boxR b (n + 400)], ?_, ?_⟩
  · refine ⟨pg, tg, ks, ms, rfl, s18.f (trF tg pg) (by walk_at "mem"), wg, nks, nms, by omega, fun ao H19 sh hao => ?_⟩
    exact ⟨ao, rfl, (s18.same sh).add (lkF CL tg ao) hao⟩
  rintro σ' H19 ⟨ao, rfl, s19⟩
  clear s18
  have neg : ∀ (t : Tr) (a : Addr) {F' : List (PF (E1 Γ))} {R : List (RS (E1 Γ))} {H' : Hp} {Q' : VK}, SS (E := E1 Γ) H [b] H' F' R → lkF CL t a ∈ F' → t.walk → t.dep ≤ 60 → (∀ c H'', SS (E := E1 Γ) H [b] H'' (lkF CL t.back c :: F') R → Q' (.ref c) H'') → WU (Γ.at 199) (unaryOp .USub) (.ref a) H' Q' := by
    intro t a F' R H' Q' s20 hm hw hd k
    obtain ⟨dx, px, ex, _⟩ := s20.f _ hm
    exact wu_negO (E := E0) (sp := spNeg Γ.K CL 60) m_neg (by omega) ex ⟨a, t, rfl, s20.f _ hm, hw, hd, fun c H'' sh hc => k c H'' ((s20.same sh).add (lkF CL t.back c) hc)⟩
  refine ⟨fun σ' H2 => σ' = [some (.ref b), some (.ref kl), some (.ref ml), some (.ref p1), some (.ref p2), some (.ref a3), some (.ref a2), some (.ref a1), some (.ref l), some (.ref pf), some (.ref pn), some (.ref aw), some (.ref af), some (.ref ao), c14, c15, c16, some (.ref pw), some (.ref pt), some (.ref pg), none] ∧ SS (E := E1 Γ) H [b] H2 [lkF CL tg ao, trF tg pg, lkF CT (.one "found" t2) af, lkF CL t2 a2, lkF CL t1 a1] [lstR l (Ts.map V.ref), lstR ml (ms.map V.str), lstR kl (ks.map V.str), boxR b (n + 400)], ?_, ?_⟩
  · walk_at "dn"
    refine neg tg ao s19 (by walk_at "mem") kg (by omega) fun c1 H20 s20 => ?_
    obtain ⟨dx1, px1, ex1, _⟩ := s20.f (lkF CL tg.back c1) (.head _)
    refine wa_prop kL.tree (by omega) ex1 (E := E0) ⟨c1, _, rfl, s20.f (lkF CL tg.back c1) (.head _), fun q1 hq1 => ?_⟩
    refine ⟨pg, tg, rfl, s20.f (trF tg pg) (by walk_at "mem"), kg, by omega, fun q2 H21 sh21 hq2 => ?_⟩
    have s21 := s20.same sh21
    refine wo_neT (hq1.same sh21) hq2 (Tr.back_ok og) (Tr.back_ok og) (by rw [Tr.back_dep]; omega) (by rw [Tr.back_dep]; omega) ?_
    rw [decide_eq_true rfl]
    walk_at "di"
    refine neg tg ao s21 (by walk_at "mem") kg (by omega) fun c2 H22 s22 => ?_
    refine neg tg.back c2 s22 (by walk_at "mem") (Tr.back_walk kg) (by rw [Tr.back_dep]; omega) fun c3 H23 s23 => ?_
    rw [Tr.back_back] at s23
    obtain ⟨dx3, px3, ex3, _⟩ := s23.f (lkF CL tg c3) (.head _)
    obtain ⟨dx4, px4, ex4, _⟩ := s23.f (lkF CL tg ao) (by walk_at "mem")
    refine wo_neO KE.L.k KE.L.qn m_eqL (by omega) (KE.L.ty ex4) KE.nLL ex3 (E := E0) ⟨c3, _, _, rfl, s23.f (lkF CL tg c3) (.head _), og, by omega, .inl ⟨ao, _, rfl, s23.f (lkF CL tg ao) (by walk_at "mem"), og, by omega, _, rfl, ?_⟩⟩
    rw [decide_eq_true rfl]
    walk_at "di"
    refine neg tg ao s23 (by walk_at "mem") kg (by omega) fun c5 H24 s24 => ?_
    obtain ⟨dx5, px5, ex5, _⟩ := s24.f (lkF CL tg.back c5) (.head _)
    refine wa_prop kL.steps (by omega) ex5 (E := E0) ⟨c5, _, rfl, s24.f (lkF CL tg.back c5) (.head _), Tr.back_ok og, by rw [Tr.back_dep]; omega, fun H25 sh25 => ?_⟩
    have s25 := s24.same sh25
    obtain ⟨dx6, px6, ex6, _⟩ := s25.f (lkF CL tg ao) (by walk_at "mem")
    refine wa_prop kL.steps (by omega) ex6 (E := E0) ⟨ao, _, rfl, s25.f (lkF CL tg ao) (by walk_at "mem"), og, by omega, fun H26 sh26 => ?_⟩
    walk_at "di"
    rw [Tr.back_steps, decide_eq_true rfl]
    exact ⟨rfl, (s25.same sh26).sub (by walk_at "mems")⟩
  rintro σ' H20 ⟨rfl, s20⟩
  clear s19 neg
  -- both
  refine ⟨fun σ' H2 => σ' = [some (.ref b), some (.ref kl), some (.ref ml), some (.ref p1), some (.ref p2), some (.ref a3), some (.ref a2), some (.ref a1), some (.ref l), some (.ref pf), some (.ref pn), some (.ref aw), some (.ref af), some (.ref ao), c14, c15, c16, some (.ref pw), some (.ref pt), some (.ref pg), some (.bl false)] ∧ SS (E := E1 Γ) H [b] H2 [lkF CL tg ao, trF tg pg, lkF CT (.one "found" t2) af, lkF CL t2 a2, lkF CL t1 a1] [lstR l (Ts.map V.ref), lstR ml (ms.map V.str), lstR kl (ks.map V.str), boxR b (n + 400)], ?_, ?_⟩
  · walk_at "dn"
    refine ⟨rfl, fun c1 H21 sh1 hc1 => ?_⟩
    obtain ⟨dx1, px1, ex1, _⟩ := id hc1
    refine ⟨3, CL, c1, dx1, _, spUn Γ.K CL CT "found", [], E0, ⟨m_found.ex⟩, by omega, rfl, ex1, by rfl, c1, _, rfl, hc1, fun c2 H22 sh2 hc2 => ?_⟩
    refine ⟨rfl, fun c3 H23 sh3 hc3 => ?_⟩
    have hc2' := hc2.same sh3
    obtain ⟨dx2, px2, ex2, _⟩ := id hc2'
    obtain ⟨dx3, px3, ex3, _⟩ := id hc3
    refine wo_own (op := .BitAnd) (sp := spBin Γ.K CT "and") (E := E0) KE.T.k (by rw [e3]; exact t_and) (by omega) ex2 ex3 ⟨c2, c3, _, _, rfl, hc2', hc3, fun c4 H24 sh4 hc4 => ?_⟩
    refine ⟨rfl, fun c5 H25 sh5 hc5 => ?_⟩
    have hc4' := hc4.same sh5
    obtain ⟨dx4, px4, ex4, _⟩ := id hc4'
    obtain ⟨dx5, px5, ex5, _⟩ := id hc5
    refine wa_prop kT.tree (by omega) ex5 (E := E0) ⟨c5, _, rfl, hc5, fun q5 hq5 => ?_⟩
    have o1 : (Tr.two "and" (.one "found" (.z "here")) (.z "always")).ok := ⟨okw_of (by simp), ⟨okw_of (by simp), okw_of (by simp)⟩, okw_of (by simp)⟩
    obtain ⟨r5, h5, _, _⟩ := hq5.rest
    refine wo_eqO m_eqT (by omega) (sqt_ty h5) KE.nTt ex4 (E := E0) (sp := spEqC Γ.K CT) ⟨c4, _, _, rfl, hc4', o1, by decide, .inr ⟨_, sqt_ty h5, KE.T.tp, ?_⟩⟩
    exact ⟨rfl, ((((s20.same sh1).same sh2).same sh3).same sh4).same sh5⟩
  rintro σ' H21 ⟨rfl, s21⟩
  clear s20
  walk_at "dn"
  obtain ⟨k0, ks', rfl⟩ : ∃ k0 ks', ks = k0 :: ks' := by
    cases ks with
    | nil => cases lks
    | cons k0 ks' => exact ⟨_, _, rfl⟩
  refine wx_l (SqL.of (s21.cell (p := kl) (by walk_at "mem"))) (v := .str k0) (atG (j := 0) rfl rfl) ?_
  refine ⟨k0, ao, pg, tg, rfl, nks k0 (.head _), s21.f (lkF CL tg ao) (by walk_at "mem"), s21.f (trF tg pg) (by walk_at "mem"), og, by omega, fun H22 sh22 => ?_⟩
  have s22 := s21.same sh22
  walk_at "di"
  refine bin .BitOr _ "or" CL a1 a2 t1 t2 _ KE.L e2 m_or s22 (by walk_at "mem") (by walk_at "mem") fun d1 H23 s23 => ?_
  obtain ⟨dx1, px1, ex1, _⟩ := s23.f (lkF CL t1 a1) (by walk_at "mem")
  refine ⟨3, CL, a1, dx1, _, spUn Γ.K CL CT "found", [], E0, ⟨m_found.ex⟩, by omega, rfl, ex1, by rfl, a1, t1, rfl, s23.f (lkF CL t1 a1) (by walk_at "mem"), fun d2 H24 sh24 hd2 => ?_⟩
  have s24 := (s23.same sh24).add (lkF CT (.one "found" t1) d2) hd2
  refine bin .BitOr _ "or" CT d2 af (.one "found" t1) (.one "found" t2) _ KE.T e2 t_or s24 (by walk_at "mem") (by walk_at "mem") fun d3 H25 s25 => ?_
  obtain ⟨dx3, px3, ex3, _⟩ := s25.f (lkF CL (.two "or" t1 t2) d1) (by walk_at "mem")
  obtain ⟨dx4, px4, ex4, _⟩ := s25.f (lkF CT (.two "or" (.one "found" t1) (.one "found" t2)) d3) (.head _)
  have o1 : (Tr.two "or" t1 t2).ok := ⟨okw_of (by simp), Tr.wf_ok okk okm t1 false g1.wf, Tr.wf_ok okk okm t2 false g2.wf⟩
  refine wo_neO KE.L.k KE.L.qn m_eqL (by omega) (KE.T.ty ex4) KE.nLT ex3 (E := E0) ⟨d1, _, _, rfl, s25.f (lkF CL (.two "or" t1 t2) d1) (by walk_at "mem"), o1, by simp only [Tr.dep]; omega, .inr ⟨_, KE.T.ty ex4, KE.TL, _, rfl, ?_⟩⟩
  walk_at "di"
  exact q H25 s25.fr ((s25.box (by walk_at "mem")).less (by omega))
def spLaw (K : PySem.W.Frag) : Sp := fun vs H Q _ => ∃ (a : Addr) (ns : List Int), vs = [.ref a] ∧ SqL K H a (ns.map V.int) ∧ ns.length ≤ 63 ∧ ∀ H', Q (.bl true) H'
abbrev s_law : Stmt := topS 42
abbrev n_law : List Str := ["_law_script", "_law_slots_so", "_law_k", "_law_box_here", "_law_turn"]
theorem sc_law : FnScope n_law ["_law_script"] (defScope s_law) := ⟨rfl, rfl, rfl, by decide +kernel, rfl, by decide +kernel, by decide +kernel⟩
theorem nm_law : nvB n_law (defScope s_law) 0 "_law_script" = true ∧ nvB n_law (defScope s_law) 1 "_law_slots_so" = true ∧ nvB n_law (defScope s_law) 2 "_law_k" = true ∧ lvB n_law (defScope s_law) 1 "_law_slots_so" = true ∧ lvB n_law (defScope s_law) 2 "_law_k" = true ∧ lvB n_law (defScope s_law) 3 "_law_box_here" = true ∧ gvB (defScope s_law) "_law_box" = true ∧ gvB (defScope s_law) "_law_cells" = true ∧ gvB (defScope s_law) "all" = true ∧ gvB (defScope s_law) "len" = true ∧ gvB (defScope s_law) "range" = true := by decide +kernel
theorem cl_law {Γ : Gm} {f : Addr} {fd : FuncData} (dfn : L2.Fun Γ.K "law" "law" s_law f fd) (T : Names Γ) (c_law_cells : Cl Γ CX0 1 "_law_cells" (spCells Γ.K) []) (c_law_box : Cl Γ CX0 1 "_law_box" (spBox Γ.K) []) (c_law_right : Cl Γ CX0 200 "_law_right" spRight []) : FnOk Γ.P Γ.w Γ.K Γ.mg Γ.base CX0 (210) f fd ["_law_script"] (spLaw Γ.K) := by
  refine fun_top dfn sc_law (fun vs H Q E h => ?_) (fun f cdv A outer s H vs Q E hg h => ?_)
  · obtain ⟨a, ns, rfl, _⟩ := h
    rfl
  obtain ⟨a, ns, rfl, hl, hn, q⟩ := h
  have nd := sc_law.nd
  obtain ⟨v0, v1, v2, l1, l2, l3, g__law_box, g__law_cells, g_all, g_len, g_range⟩ := nm_law
  refine ⟨_, (C8.pss_cut (pst (i := 1) nd l1 (pcl c_law_cells hg (by omega) g__law_cells pass0 (pa_cons (ps 0 v0) (pa_cons pe_int pa_nil))))
    (pss_cons (ps_for PassesOwn.never rfl (pi_r1 g_range T.n_range (pa_cons (pcb (k_len hg) g_len T.n_len bt_len (pa_cons (ps 1 v1) pa_nil)) pa_nil)) (pgn (i := 2) nd l2)
    (pss_cons (pst (i := 3) nd l3 (pcl c_law_box hg (by omega) g__law_box pass0 (pa_cons (ps 1 v1) (pa_cons (ps 2 v2) pa_nil))))
    (pss_one (ps_ifB (pt_not (pt_tr hg (pcb (WC.ok hg) g_all T.n_all bt_all (pa_cons (pe_lc (own := [("_law_turn", 4)]) rfl nd (pi_r1 g_range T.n_range (pa_cons pe_int pa_nil)) (blkOk_by (N := n_law) (sc := defScope s_law) (by decide +kernel)) (fun _ _ _ _ _ => (pg_name (i := 4) nd rfl (by first | exact .inl rfl | exact .inr rfl))) (fun _ _ _ _ _ => pts_nil) (fun _ _ _ _ _ => (pcl c_law_right hg.blk (by omega) (by rfl) pass0 (pa_cons (psr 3) pa_nil)))) pa_nil))))
    (pss_one (ps_ret pe_bl))
    pss_nil))))
    (pss_one (ps_ret pe_bl)))), ?_⟩
  refine st_start (σ := [some _, none, none, none, none]) rfl ?_
  walk_at "dn"
  refine ⟨fun σ' H1 => ∃ (p : Addr) (ks : List Int), σ' = [some (.ref a), some (.ref p), none, none, none] ∧ SS (E := E1 Γ) H [] H1 [] [lstR p (ks.map V.int)] ∧ ks.length ≤ 3, ?_, ?_⟩
  · exact ⟨a, ns, 3, rfl, hl, hn, by omega, by omega, fun p H1 ks hp s1 hc k1 k3 => ⟨p, ks, rfl, SS.of1 hp s1 hc (fun z => z), k3⟩⟩
  rintro σ' H1 ⟨p, ks, rfl, s1, k3⟩
  walk_at "dn"
  refine wc_len_l (SqL.of (s1.cell (.head _))) ?_
  walk_at "di"
  rw [List.length_map]
  refine ⟨_, rfl, by omega, by omega, ?_⟩
  refine lp_range (fun i σ H' => ∃ c2 c3, σ = [some (.ref a), some (.ref p), c2, c3, none] ∧ SS (E := E1 Γ) H [] H' [] [lstR p (ks.map V.int)]) ⟨_, _, rfl, s1⟩ ?_ (fun σ H' ⟨_, _, h, s⟩ => by subst h; exact q H')
  rintro i σ H2 hi ⟨c2, c3, rfl, s2⟩
  have hi2 : i < ks.length := by omega
  walk_at "dn"
  refine ⟨p, ks, i, by simp, SqL.of (s2.cell (.head _)), hi2, by omega, fun pb H3 hpb sh hb => ?_⟩
  have s3 := s2.newR (boxR pb (2 ^ 39)) sh hb (List.nodup_cons.mpr ⟨List.not_mem_nil, List.nodup_nil⟩) (fun a ha => by
    cases ha with
    | head => exact hpb
    | tail _ z => cases z) (fun a ha => by
    cases ha with
    | head => obtain ⟨xs, e⟩ := hb.cell; exact ⟨_, e, fun z => z⟩
    | tail _ z => cases z)
  walk_at "di"
  refine ⟨_, rfl, by decide, by decide, fun D hD => ?_⟩
  refine lq_it walk_range (fun j acc H' => SS (E := E1 Γ) H [] H' [] [lstR D acc, boxR pb (2 ^ 39 - 2000 * j), lstR p (ks.map V.int)] ∧ acc = (List.replicate j true).map V.bl) ⟨s3.newC (o := .lst []) hD (fun z => z), rfl⟩ (fun _ _ _ _ _ => trivial) ?_ ?_
  · rintro j x acc H4 H5 hj hl2 ⟨s, ha⟩ ⟨rfl, hx2⟩
    have hj2 : j < 2 := hj
    walk_at "dn"
    refine ⟨rfl, pb, 2 ^ 39 - 2000 * (j + 1), rfl, (s.box (by walk_at "mem")).less (by omega), fun H6 f6 b6 => ?_⟩
    have s6 := s.draw (n := 2 ^ 39 - 2000 * (j + 1)) (by walk_at "pick") f6 b6
    refine lq_add s6 hl2 (lt_size (by omega)) ⟨_, lq_len hl2, s6.app, ?_⟩
    rw [ha, List.replicate_succ', List.map_append]
    rfl
  · rintro acc H4 hl2 ⟨s, ha⟩
    subst ha
    refine wc_all (SqL.of (s.cell (.head _))) ?_
    rw [show (List.replicate (Int.toNat 2) true).all id = true from rfl]
    walk_at "di"
    exact ⟨_, _, rfl, s.drop.drop⟩
def fns : List DE := [
  ⟨fun K => He.ga K "_law_take", "_law_take", "_law_take", s_take, []⟩,
  ⟨fun K => He.ga K "_law_box", "_law_box", "_law_box", s_box, []⟩,
  ⟨fun K => He.ga K "_law_of", "_law_of", "_law_of", s_of, []⟩,
  ⟨fun K => He.ga K "_law_cells", "_law_cells", "_law_cells", s_cells, []⟩,
  ⟨fun K => He.ga K "_law_pick", "_law_pick", "_law_pick", s_pick, []⟩,
  ⟨fun K => He.ga K "_law_names", "_law_names", "_law_names", s_names, []⟩,
  ⟨fun K => He.ga K "is_number", "is_number", "is_number", s_isnum, []⟩,
  ⟨fun K => He.ga K "is_name", "is_name", "is_name", s_isname, []⟩,
  ⟨fun K => He.ga K "back_of", "back_of", "back_of", s_backof, []⟩,
  ⟨fun K => He.ga K "repeated", "repeated", "repeated", s_rep, []⟩,
  ⟨fun K => He.ga K "parts_of", "parts_of", "parts_of", s_parts, []⟩,
  ⟨fun K => He.ga K "names_in", "names_in", "names_in", s_names_in, []⟩,
  ⟨fun K => He.ga K "steps_in", "steps_in", "steps_in", s_steps_in, []⟩,
  ⟨fun K => He.ma K (He.ga K "Test") "__init__", "__init__", "Test.__init__", s_Ts_init, []⟩,
  ⟨fun K => pgA K "Test" "tree", "tree", "Test.tree", s_Ts_tree, []⟩,
  ⟨fun K => pgA K "Test" "kinds", "kinds", "Test.kinds", s_Ts_kinds, []⟩,
  ⟨fun K => pgA K "Test" "marks", "marks", "Test.marks", s_Ts_marks, []⟩,
  ⟨fun K => pgA K "Test" "steps", "steps", "Test.steps", s_Ts_steps, []⟩,
  ⟨fun K => He.ma K (He.ga K "Test") "__eq__", "__eq__", "Test.__eq__", s_Ts_eq, []⟩,
  ⟨fun K => He.ma K (He.ga K "Test") "__and__", "__and__", "Test.__and__", s_Ts_and, []⟩,
  ⟨fun K => He.ma K (He.ga K "Test") "__or__", "__or__", "Test.__or__", s_Ts_or, []⟩,
  ⟨fun K => He.ma K (He.ga K "Test") "__xor__", "__xor__", "Test.__xor__", s_Ts_xor, []⟩,
  ⟨fun K => He.ma K (He.ga K "Test") "__invert__", "__invert__", "Test.__invert__", s_Ts_not, []⟩,
  ⟨fun K => He.ma K (He.ga K "Look") "__init__", "__init__", "Look.__init__", s_Lk_init, []⟩,
  ⟨fun K => pgA K "Look" "tree", "tree", "Look.tree", s_Lk_tree, []⟩,
  ⟨fun K => pgA K "Look" "kinds", "kinds", "Look.kinds", s_Lk_kinds, []⟩,
  ⟨fun K => pgA K "Look" "marks", "marks", "Look.marks", s_Lk_marks, []⟩,
  ⟨fun K => pgA K "Look" "steps", "steps", "Look.steps", s_Lk_steps, []⟩,
  ⟨fun K => He.ma K (He.ga K "Look") "__eq__", "__eq__", "Look.__eq__", s_Lk_eq, []⟩,
  ⟨fun K => He.ma K (He.ga K "Look") "__rshift__", "__rshift__", "Look.__rshift__", s_Lk_then, []⟩,
  ⟨fun K => He.ma K (He.ga K "Look") "__or__", "__or__", "Look.__or__", s_Lk_or, []⟩,
  ⟨fun K => He.ma K (He.ga K "Look") "__and__", "__and__", "Look.__and__", s_Lk_and, []⟩,
  ⟨fun K => He.ma K (He.ga K "Look") "__neg__", "__neg__", "Look.__neg__", s_Lk_neg, []⟩,
  ⟨fun K => He.ma K (He.ga K "Look") "__pow__", "__pow__", "Look.__pow__", s_Lk_pow, []⟩,
  ⟨fun K => He.ma K (He.ga K "Look") "when", "when", "Look.when", s_Lk_when, []⟩,
  ⟨fun K => He.ma K (He.ga K "Look") "found", "found", "Look.found", s_Lk_found, []⟩,
  ⟨fun K => He.ma K (He.ga K "Look") "same", "same", "Look.same", s_Lk_same, []⟩,
  ⟨fun K => He.ga K "here", "here", "here", s_here, []⟩,
  ⟨fun K => He.ga K "always", "always", "always", s_always, []⟩,
  ⟨fun K => He.ga K "marked", "marked", "marked", s_marked, []⟩,
  ⟨fun K => He.ga K "step", "step", "step", s_step, [.int 1]⟩,
  ⟨fun K => He.ga K "_law_leaf", "_law_leaf", "_law_leaf", s_leaf, []⟩,
  ⟨fun K => He.ga K "_law_look", "_law_look", "_law_look", s_look, []⟩,
  ⟨fun K => He.ga K "_law_test", "_law_test", "_law_test", s_test, []⟩,
  ⟨fun K => He.ga K "_law_made_look", "_law_made_look", "_law_made_look", s_mlook, []⟩,
  ⟨fun K => He.ga K "_law_made_test", "_law_made_test", "_law_made_test", s_mtest, []⟩,
  ⟨fun K => He.ga K "_law_grouped", "_law_grouped", "_law_grouped", s_grouped, []⟩,
  ⟨fun K => He.ga K "_law_turned", "_law_turned", "_law_turned", s_turned, []⟩,
  ⟨fun K => He.ga K "_law_told", "_law_told", "_law_told", s_told, []⟩,
  ⟨fun K => He.ga K "_law_shown", "_law_shown", "_law_shown", s_shown, []⟩,
  ⟨fun K => He.ga K "_law_powers", "_law_powers", "_law_powers", s_powers, []⟩,
  ⟨fun K => He.ga K "_law_right", "_law_right", "_law_right", s_right, []⟩,
  ⟨fun K => He.ga K "law", "law", "law", s_law, []⟩]
def exs : List (PySem.W.Frag → Bool) := [
  okFa (.free "abs"),
  okFa (.free "all"),
  okFa (.free "any"),
  okFa (.free "bool"),
  okFa (.free "chr"),
  okFa (.free "dict"),
  okFa (.free "enumerate"),
  okFa (.free "int"),
  okFa (.free "isinstance"),
  okFa (.free "len"),
  okFa (.free "list"),
  okFa (.free "max"),
  okFa (.free "min"),
  okFa (.free "ord"),
  okFa (.free "range"),
  okFa (.free "reversed"),
  okFa (.free "set"),
  okFa (.free "sorted"),
  okFa (.free "str"),
  okFa (.free "sum"),
  okFa (.free "tuple"),
  okFa (.free "zip"),
  okFa (.glo "_law_take"),
  okFa (.glo "_law_box"),
  okFa (.glo "_law_of"),
  okFa (.glo "_law_cells"),
  okFa (.glo "_law_pick"),
  okFa (.glo "_law_names"),
  okFa (.glo "is_number"),
  okFa (.glo "is_name"),
  okFa (.glo "back_of"),
  okFa (.glo "repeated"),
  okFa (.glo "parts_of"),
  okFa (.glo "names_in"),
  okFa (.glo "steps_in"),
  okFa (.cls "Test"),
  okFa (.meth "Test" "__init__"),
  propB "Test" "tree",
  propB "Test" "kinds",
  propB "Test" "marks",
  propB "Test" "steps",
  okFa (.meth "Test" "__eq__"),
  okFa (.meth "Test" "__and__"),
  okFa (.meth "Test" "__or__"),
  okFa (.meth "Test" "__xor__"),
  okFa (.meth "Test" "__invert__"),
  okFa (.cls "Look"),
  okFa (.meth "Look" "__init__"),
  propB "Look" "tree",
  propB "Look" "kinds",
  propB "Look" "marks",
  propB "Look" "steps",
  okFa (.meth "Look" "__eq__"),
  okFa (.meth "Look" "__rshift__"),
  okFa (.meth "Look" "__or__"),
  okFa (.meth "Look" "__and__"),
  okFa (.meth "Look" "__neg__"),
  okFa (.meth "Look" "__pow__"),
  okFa (.meth "Look" "when"),
  okFa (.meth "Look" "found"),
  okFa (.meth "Look" "same"),
  okFa (.glo "here"),
  okFa (.glo "always"),
  okFa (.glo "marked"),
  okFa (.glo "step"),
  okFa (.glo "_law_leaf"),
  okFa (.glo "_law_look"),
  okFa (.glo "_law_test"),
  okFa (.glo "_law_made_look"),
  okFa (.glo "_law_made_test"),
  okFa (.glo "_law_grouped"),
  okFa (.glo "_law_turned"),
  okFa (.glo "_law_told"),
  okFa (.glo "_law_shown"),
  okFa (.glo "_law_powers"),
  okFa (.glo "_law_right"),
  okFa (.glo "law"),
  okFa (.str "LETTERS" LET),
  keB,
  kpwB "Look",
  kinB "Look",
  okFa (.mkr "Look"),
  okFa (.mkr "Test")]
abbrev R : PySem.W.OpenRow := PySem.W.OpenLaw.row PySem.Challenge.rw_linelooks_k05_trees
abbrev hk : PySem.W.Hook := hookE 6 exs fns
def ob (s : PySem.W.SharedT) : AlE := obsEG 6 exs fns (HandSHeadRun.getT s)
theorem ob_eq (s : PySem.W.SharedT) : ob s = hk.obs s.abs := obsEG_eq (HandSHeadRun.getT_eq s)
def loose : List Str := (["__name__", "LineError", "NoName", "NoRow", "NoStep", "NoWay", "__name__", "LETTERS", "is_number", "is_name", "__name__", "back_of", "repeated", "parts_of", "names_in", "steps_in", "row_at", "holds_at", "Test", "Look", "here", "step", "always", "marked", "__name__", "_law_box", "_law_take", "_law_cells", "_law_of", "_law_pick"] : List Str) ++ (["_law_names", "_law_leaf", "_law_look", "_law_test", "_law_made_look", "_law_made_test", "_law_grouped", "_law_turned", "_law_told", "_law_shown", "_law_powers", "_law_right"] : List Str)
theorem run (w : World) : HandSHeadRun.RunEq R (PySem.W.view R.prog [42]) hk ob 20000 loose w := by
  intro os
  kernel_rfl
theorem dfd_step {P : Program} {w : World} {K : PySem.W.Frag} {mg : Str → Option Value} {base h : Heap} {lv : Nat} {fd : FuncData} (X : K.In h) (N : h.Ns mainGlobals mg) (g : okFa (.glo "step") K = true) (F : FunD K "step" "step" (defArgs s_step) (defBody s_step) (defScope s_step) [.int 1] [] (He.ga K "step") fd) : DfD ⟨P, w, K, mg, base, lv⟩ "step" s_step ["kind", "by"] [.int 1] := by
  refine ⟨_, fd, F, He.glo_ok X N g, ?_, ?_, ?_⟩
  · obtain ⟨ds, v, b⟩ := FunD.binds1 (ps := ["kind", "by"]) F 2 1 (by simp) rfl fun T kV doc pm an cdv ct us its h1 h2 => match us, h1, its, h2 with
      | [_, _], _, [_], _ => ⟨_, rfl, rfl⟩
    cases v
    exact b
  · exact FunD.binds1 (ps := ["kind", "by"]) F 1 0 (by simp) rfl fun T kV doc pm an cdv ct us its h1 h2 => match us, h1, its, h2 with
      | [_], _, [_], _ => ⟨_, rfl, rfl⟩
  · obtain ⟨its, b⟩ := FunD.kbindsD (ps := ["kind", "by"]) F 1 ["by"] (fun a _ c => a ++ c) (by simp) (fun r1 _ r3 => r1.append r3) fun T kV doc pm an cdv ct us its ws h1 h2 h3 => match us, h1, its, h2, ws, h3 with
      | [_], _, [_], _, [_], _ => ⟨_, rfl, rfl⟩
    exact b
theorem all_mk {P : Program} {w : World} {K : PySem.W.Frag} {h : Heap} {mg : Str → Option Value} {fa : Addr} (X : K.In h) (N : h.Ns mainGlobals mg) (hfa : mg "law" = some (.ref fa)) (c : SaysE exs fns K) :
    ∃ fd : FuncData, (∀ (s : Shared) (v : Value), BindsTo s fd ⟨[v], []⟩ [("_law_script", v)]) ∧ ∀ base : Heap, K.In base → base.Ns mainGlobals mg → FnOk P w K mg base CX0 210 fa fd ["_law_script"] (spLaw K) := by
  have e0 := hfa.symm.trans (He.glo_ok X N (c.fact 76 rfl))
  obtain ⟨fd_law, F_law⟩ := c.def_ 52 rfl
  cases e0
  have bA := FunD.bindsA (ps := ["_law_script"]) F_law fun _ _ _ _ _ _ us hl => match us, hl with | [_], _ => rfl
  refine ⟨fd_law, fun s v => bA s [v] rfl, fun base _ _ => ?_⟩
  let Γ : Gm := ⟨P, w, K, mg, base, 0⟩
  have T : Names Γ := ⟨He.free_ok X N (c.fact 0 rfl), He.free_ok X N (c.fact 1 rfl), He.free_ok X N (c.fact 2 rfl), He.free_ok X N (c.fact 3 rfl), He.free_ok X N (c.fact 4 rfl), He.free_ok X N (c.fact 5 rfl), He.free_ok X N (c.fact 6 rfl), He.free_ok X N (c.fact 7 rfl), He.free_ok X N (c.fact 8 rfl), He.free_ok X N (c.fact 9 rfl), He.free_ok X N (c.fact 10 rfl), He.free_ok X N (c.fact 11 rfl), He.free_ok X N (c.fact 12 rfl), He.free_ok X N (c.fact 13 rfl), He.free_ok X N (c.fact 14 rfl), He.free_ok X N (c.fact 15 rfl), He.free_ok X N (c.fact 16 rfl), He.free_ok X N (c.fact 17 rfl), He.free_ok X N (c.fact 18 rfl), He.free_ok X N (c.fact 19 rfl), He.free_ok X N (c.fact 20 rfl), He.free_ok X N (c.fact 21 rfl)⟩
  obtain ⟨fd_take, F_take⟩ := c.def_ 0 rfl
  have b_take : Binds K fd_take ["_law_box_here", "_law_below"] [] := FunD.bindsN F_take fun _ _ _ _ _ _ us hl => match us, hl with | [_, _], _ => rfl
  have d_take : Dfn Γ "_law_take" s_take ["_law_box_here", "_law_below"] := dfn_of X N (c.fact 22 rfl) F_take b_take
  obtain ⟨fd_box, F_box⟩ := c.def_ 1 rfl
  have b_box : Binds K fd_box ["_law_script", "_law_k"] [] := FunD.bindsN F_box fun _ _ _ _ _ _ us hl => match us, hl with | [_, _], _ => rfl
  have d_box : Dfn Γ "_law_box" s_box ["_law_script", "_law_k"] := dfn_of X N (c.fact 23 rfl) F_box b_box
  obtain ⟨fd_of, F_of⟩ := c.def_ 2 rfl
  have b_of : Binds K fd_of ["_law_box_here", "_law_goods_so"] [] := FunD.bindsN F_of fun _ _ _ _ _ _ us hl => match us, hl with | [_, _], _ => rfl
  have d_of : Dfn Γ "_law_of" s_of ["_law_box_here", "_law_goods_so"] := dfn_of X N (c.fact 24 rfl) F_of b_of
  obtain ⟨fd_cells, F_cells⟩ := c.def_ 3 rfl
  have b_cells : Binds K fd_cells ["_law_script", "_law_most"] [] := FunD.bindsN F_cells fun _ _ _ _ _ _ us hl => match us, hl with | [_, _], _ => rfl
  have d_cells : Dfn Γ "_law_cells" s_cells ["_law_script", "_law_most"] := dfn_of X N (c.fact 25 rfl) F_cells b_cells
  obtain ⟨fd_pick, F_pick⟩ := c.def_ 4 rfl
  have b_pick : Binds K fd_pick ["_law_box_here", "_law_goods_so", "_law_count_so"] [] := FunD.bindsN F_pick fun _ _ _ _ _ _ us hl => match us, hl with | [_, _, _], _ => rfl
  have d_pick : Dfn Γ "_law_pick" s_pick ["_law_box_here", "_law_goods_so", "_law_count_so"] := dfn_of X N (c.fact 26 rfl) F_pick b_pick
  obtain ⟨fd_names, F_names⟩ := c.def_ 5 rfl
  have b_names : Binds K fd_names ["_law_box_here", "_law_many"] [] := FunD.bindsN F_names fun _ _ _ _ _ _ us hl => match us, hl with | [_, _], _ => rfl
  have d_names : Dfn Γ "_law_names" s_names ["_law_box_here", "_law_many"] := dfn_of X N (c.fact 27 rfl) F_names b_names
  obtain ⟨fd_isnum, F_isnum⟩ := c.def_ 6 rfl
  have b_isnum : Binds K fd_isnum ["value"] [] := FunD.bindsN F_isnum fun _ _ _ _ _ _ us hl => match us, hl with | [_], _ => rfl
  have d_isnum : Dfn Γ "is_number" s_isnum ["value"] := dfn_of X N (c.fact 28 rfl) F_isnum b_isnum
  obtain ⟨fd_isname, F_isname⟩ := c.def_ 7 rfl
  have b_isname : Binds K fd_isname ["value"] [] := FunD.bindsN F_isname fun _ _ _ _ _ _ us hl => match us, hl with | [_], _ => rfl
  have d_isname : Dfn Γ "is_name" s_isname ["value"] := dfn_of X N (c.fact 29 rfl) F_isname b_isname
  obtain ⟨fd_backof, F_backof⟩ := c.def_ 8 rfl
  have b_backof : Binds K fd_backof ["tree"] [] := FunD.bindsN F_backof fun _ _ _ _ _ _ us hl => match us, hl with | [_], _ => rfl
  have d_backof : Dfn Γ "back_of" s_backof ["tree"] := dfn_of X N (c.fact 30 rfl) F_backof b_backof
  obtain ⟨fd_rep, F_rep⟩ := c.def_ 9 rfl
  have b_rep : Binds K fd_rep ["tree", "count"] [] := FunD.bindsN F_rep fun _ _ _ _ _ _ us hl => match us, hl with | [_, _], _ => rfl
  have d_rep : Dfn Γ "repeated" s_rep ["tree", "count"] := dfn_of X N (c.fact 31 rfl) F_rep b_rep
  obtain ⟨fd_parts, F_parts⟩ := c.def_ 10 rfl
  have b_parts : Binds K fd_parts ["tree"] [] := FunD.bindsN F_parts fun _ _ _ _ _ _ us hl => match us, hl with | [_], _ => rfl
  have d_parts : Dfn Γ "parts_of" s_parts ["tree"] := dfn_of X N (c.fact 32 rfl) F_parts b_parts
  obtain ⟨fd_names_in, F_names_in⟩ := c.def_ 11 rfl
  have b_names_in : Binds K fd_names_in ["tree", "word"] [] := FunD.bindsN F_names_in fun _ _ _ _ _ _ us hl => match us, hl with | [_, _], _ => rfl
  have d_names_in : Dfn Γ "names_in" s_names_in ["tree", "word"] := dfn_of X N (c.fact 33 rfl) F_names_in b_names_in
  obtain ⟨fd_steps_in, F_steps_in⟩ := c.def_ 12 rfl
  have b_steps_in : Binds K fd_steps_in ["tree"] [] := FunD.bindsN F_steps_in fun _ _ _ _ _ _ us hl => match us, hl with | [_], _ => rfl
  have d_steps_in : Dfn Γ "steps_in" s_steps_in ["tree"] := dfn_of X N (c.fact 34 rfl) F_steps_in b_steps_in
  obtain ⟨fd_Ts_init, F_Ts_init⟩ := c.def_ 13 rfl
  have b_Ts_init : Binds K fd_Ts_init ["self", "tree"] [] := FunD.bindsN F_Ts_init fun _ _ _ _ _ _ us hl => match us, hl with | [_, _], _ => rfl
  have d_Ts_init : DfM Γ (He.ga K "Test") "__init__" "Test.__init__" s_Ts_init ["self", "tree"] := dfm_of (c.fact 35 rfl) (c.fact 36 rfl) F_Ts_init b_Ts_init
  obtain ⟨fd_Ts_tree, F_Ts_tree⟩ := c.def_ 14 rfl
  have b_Ts_tree : Binds K fd_Ts_tree ["self"] [] := FunD.bindsN F_Ts_tree fun _ _ _ _ _ _ us hl => match us, hl with | [_], _ => rfl
  have d_Ts_tree : DfP Γ (He.ga K "Test") "tree" "Test.tree" s_Ts_tree ["self"] := dfp_of (c.fact 35 rfl) (c.fact 37 rfl) F_Ts_tree b_Ts_tree
  obtain ⟨fd_Ts_kinds, F_Ts_kinds⟩ := c.def_ 15 rfl
  have b_Ts_kinds : Binds K fd_Ts_kinds ["self"] [] := FunD.bindsN F_Ts_kinds fun _ _ _ _ _ _ us hl => match us, hl with | [_], _ => rfl
  have d_Ts_kinds : DfP Γ (He.ga K "Test") "kinds" "Test.kinds" s_Ts_kinds ["self"] := dfp_of (c.fact 35 rfl) (c.fact 38 rfl) F_Ts_kinds b_Ts_kinds
  obtain ⟨fd_Ts_marks, F_Ts_marks⟩ := c.def_ 16 rfl
  have b_Ts_marks : Binds K fd_Ts_marks ["self"] [] := FunD.bindsN F_Ts_marks fun _ _ _ _ _ _ us hl => match us, hl with | [_], _ => rfl
  have d_Ts_marks : DfP Γ (He.ga K "Test") "marks" "Test.marks" s_Ts_marks ["self"] := dfp_of (c.fact 35 rfl) (c.fact 39 rfl) F_Ts_marks b_Ts_marks
  obtain ⟨fd_Ts_steps, F_Ts_steps⟩ := c.def_ 17 rfl
  have b_Ts_steps : Binds K fd_Ts_steps ["self"] [] := FunD.bindsN F_Ts_steps fun _ _ _ _ _ _ us hl => match us, hl with | [_], _ => rfl
  have d_Ts_steps : DfP Γ (He.ga K "Test") "steps" "Test.steps" s_Ts_steps ["self"] := dfp_of (c.fact 35 rfl) (c.fact 40 rfl) F_Ts_steps b_Ts_steps
  obtain ⟨fd_Ts_eq, F_Ts_eq⟩ := c.def_ 18 rfl
  have b_Ts_eq : Binds K fd_Ts_eq ["self", "other"] [] := FunD.bindsN F_Ts_eq fun _ _ _ _ _ _ us hl => match us, hl with | [_, _], _ => rfl
  have d_Ts_eq : DfM Γ (He.ga K "Test") "__eq__" "Test.__eq__" s_Ts_eq ["self", "other"] := dfm_of (c.fact 35 rfl) (c.fact 41 rfl) F_Ts_eq b_Ts_eq
  obtain ⟨fd_Ts_and, F_Ts_and⟩ := c.def_ 19 rfl
  have b_Ts_and : Binds K fd_Ts_and ["self", "other"] [] := FunD.bindsN F_Ts_and fun _ _ _ _ _ _ us hl => match us, hl with | [_, _], _ => rfl
  have d_Ts_and : DfM Γ (He.ga K "Test") "__and__" "Test.__and__" s_Ts_and ["self", "other"] := dfm_of (c.fact 35 rfl) (c.fact 42 rfl) F_Ts_and b_Ts_and
  obtain ⟨fd_Ts_or, F_Ts_or⟩ := c.def_ 20 rfl
  have b_Ts_or : Binds K fd_Ts_or ["self", "other"] [] := FunD.bindsN F_Ts_or fun _ _ _ _ _ _ us hl => match us, hl with | [_, _], _ => rfl
  have d_Ts_or : DfM Γ (He.ga K "Test") "__or__" "Test.__or__" s_Ts_or ["self", "other"] := dfm_of (c.fact 35 rfl) (c.fact 43 rfl) F_Ts_or b_Ts_or
  obtain ⟨fd_Ts_xor, F_Ts_xor⟩ := c.def_ 21 rfl
  have b_Ts_xor : Binds K fd_Ts_xor ["self", "other"] [] := FunD.bindsN F_Ts_xor fun _ _ _ _ _ _ us hl => match us, hl with | [_, _], _ => rfl
  have d_Ts_xor : DfM Γ (He.ga K "Test") "__xor__" "Test.__xor__" s_Ts_xor ["self", "other"] := dfm_of (c.fact 35 rfl) (c.fact 44 rfl) F_Ts_xor b_Ts_xor
  obtain ⟨fd_Ts_not, F_Ts_not⟩ := c.def_ 22 rfl
  have b_Ts_not : Binds K fd_Ts_not ["self"] [] := FunD.bindsN F_Ts_not fun _ _ _ _ _ _ us hl => match us, hl with | [_], _ => rfl
  have d_Ts_not : DfM Γ (He.ga K "Test") "__invert__" "Test.__invert__" s_Ts_not ["self"] := dfm_of (c.fact 35 rfl) (c.fact 45 rfl) F_Ts_not b_Ts_not
  obtain ⟨fd_Lk_init, F_Lk_init⟩ := c.def_ 23 rfl
  have b_Lk_init : Binds K fd_Lk_init ["self", "tree"] [] := FunD.bindsN F_Lk_init fun _ _ _ _ _ _ us hl => match us, hl with | [_, _], _ => rfl
  have d_Lk_init : DfM Γ (He.ga K "Look") "__init__" "Look.__init__" s_Lk_init ["self", "tree"] := dfm_of (c.fact 46 rfl) (c.fact 47 rfl) F_Lk_init b_Lk_init
  obtain ⟨fd_Lk_tree, F_Lk_tree⟩ := c.def_ 24 rfl
  have b_Lk_tree : Binds K fd_Lk_tree ["self"] [] := FunD.bindsN F_Lk_tree fun _ _ _ _ _ _ us hl => match us, hl with | [_], _ => rfl
  have d_Lk_tree : DfP Γ (He.ga K "Look") "tree" "Look.tree" s_Lk_tree ["self"] := dfp_of (c.fact 46 rfl) (c.fact 48 rfl) F_Lk_tree b_Lk_tree
  obtain ⟨fd_Lk_kinds, F_Lk_kinds⟩ := c.def_ 25 rfl
  have b_Lk_kinds : Binds K fd_Lk_kinds ["self"] [] := FunD.bindsN F_Lk_kinds fun _ _ _ _ _ _ us hl => match us, hl with | [_], _ => rfl
  have d_Lk_kinds : DfP Γ (He.ga K "Look") "kinds" "Look.kinds" s_Lk_kinds ["self"] := dfp_of (c.fact 46 rfl) (c.fact 49 rfl) F_Lk_kinds b_Lk_kinds
  obtain ⟨fd_Lk_marks, F_Lk_marks⟩ := c.def_ 26 rfl
  have b_Lk_marks : Binds K fd_Lk_marks ["self"] [] := FunD.bindsN F_Lk_marks fun _ _ _ _ _ _ us hl => match us, hl with | [_], _ => rfl
  have d_Lk_marks : DfP Γ (He.ga K "Look") "marks" "Look.marks" s_Lk_marks ["self"] := dfp_of (c.fact 46 rfl) (c.fact 50 rfl) F_Lk_marks b_Lk_marks
  obtain ⟨fd_Lk_steps, F_Lk_steps⟩ := c.def_ 27 rfl
  have b_Lk_steps : Binds K fd_Lk_steps ["self"] [] := FunD.bindsN F_Lk_steps fun _ _ _ _ _ _ us hl => match us, hl with | [_], _ => rfl
  have d_Lk_steps : DfP Γ (He.ga K "Look") "steps" "Look.steps" s_Lk_steps ["self"] := dfp_of (c.fact 46 rfl) (c.fact 51 rfl) F_Lk_steps b_Lk_steps
  obtain ⟨fd_Lk_eq, F_Lk_eq⟩ := c.def_ 28 rfl
  have b_Lk_eq : Binds K fd_Lk_eq ["self", "other"] [] := FunD.bindsN F_Lk_eq fun _ _ _ _ _ _ us hl => match us, hl with | [_, _], _ => rfl
  have d_Lk_eq : DfM Γ (He.ga K "Look") "__eq__" "Look.__eq__" s_Lk_eq ["self", "other"] := dfm_of (c.fact 46 rfl) (c.fact 52 rfl) F_Lk_eq b_Lk_eq
  obtain ⟨fd_Lk_then, F_Lk_then⟩ := c.def_ 29 rfl
  have b_Lk_then : Binds K fd_Lk_then ["self", "other"] [] := FunD.bindsN F_Lk_then fun _ _ _ _ _ _ us hl => match us, hl with | [_, _], _ => rfl
  have d_Lk_then : DfM Γ (He.ga K "Look") "__rshift__" "Look.__rshift__" s_Lk_then ["self", "other"] := dfm_of (c.fact 46 rfl) (c.fact 53 rfl) F_Lk_then b_Lk_then
  obtain ⟨fd_Lk_or, F_Lk_or⟩ := c.def_ 30 rfl
  have b_Lk_or : Binds K fd_Lk_or ["self", "other"] [] := FunD.bindsN F_Lk_or fun _ _ _ _ _ _ us hl => match us, hl with | [_, _], _ => rfl
  have d_Lk_or : DfM Γ (He.ga K "Look") "__or__" "Look.__or__" s_Lk_or ["self", "other"] := dfm_of (c.fact 46 rfl) (c.fact 54 rfl) F_Lk_or b_Lk_or
  obtain ⟨fd_Lk_and, F_Lk_and⟩ := c.def_ 31 rfl
  have b_Lk_and : Binds K fd_Lk_and ["self", "other"] [] := FunD.bindsN F_Lk_and fun _ _ _ _ _ _ us hl => match us, hl with | [_, _], _ => rfl
  have d_Lk_and : DfM Γ (He.ga K "Look") "__and__" "Look.__and__" s_Lk_and ["self", "other"] := dfm_of (c.fact 46 rfl) (c.fact 55 rfl) F_Lk_and b_Lk_and
  obtain ⟨fd_Lk_neg, F_Lk_neg⟩ := c.def_ 32 rfl
  have b_Lk_neg : Binds K fd_Lk_neg ["self"] [] := FunD.bindsN F_Lk_neg fun _ _ _ _ _ _ us hl => match us, hl with | [_], _ => rfl
  have d_Lk_neg : DfM Γ (He.ga K "Look") "__neg__" "Look.__neg__" s_Lk_neg ["self"] := dfm_of (c.fact 46 rfl) (c.fact 56 rfl) F_Lk_neg b_Lk_neg
  obtain ⟨fd_Lk_pow, F_Lk_pow⟩ := c.def_ 33 rfl
  have b_Lk_pow : Binds K fd_Lk_pow ["self", "count"] [] := FunD.bindsN F_Lk_pow fun _ _ _ _ _ _ us hl => match us, hl with | [_, _], _ => rfl
  have d_Lk_pow : DfM Γ (He.ga K "Look") "__pow__" "Look.__pow__" s_Lk_pow ["self", "count"] := dfm_of (c.fact 46 rfl) (c.fact 57 rfl) F_Lk_pow b_Lk_pow
  obtain ⟨fd_Lk_when, F_Lk_when⟩ := c.def_ 34 rfl
  have b_Lk_when : Binds K fd_Lk_when ["self", "test"] [] := FunD.bindsN F_Lk_when fun _ _ _ _ _ _ us hl => match us, hl with | [_, _], _ => rfl
  have d_Lk_when : DfM Γ (He.ga K "Look") "when" "Look.when" s_Lk_when ["self", "test"] := dfm_of (c.fact 46 rfl) (c.fact 58 rfl) F_Lk_when b_Lk_when
  obtain ⟨fd_Lk_found, F_Lk_found⟩ := c.def_ 35 rfl
  have b_Lk_found : Binds K fd_Lk_found ["self"] [] := FunD.bindsN F_Lk_found fun _ _ _ _ _ _ us hl => match us, hl with | [_], _ => rfl
  have d_Lk_found : DfM Γ (He.ga K "Look") "found" "Look.found" s_Lk_found ["self"] := dfm_of (c.fact 46 rfl) (c.fact 59 rfl) F_Lk_found b_Lk_found
  obtain ⟨fd_Lk_same, F_Lk_same⟩ := c.def_ 36 rfl
  have b_Lk_same : Binds K fd_Lk_same ["self", "other"] [] := FunD.bindsN F_Lk_same fun _ _ _ _ _ _ us hl => match us, hl with | [_, _], _ => rfl
  have d_Lk_same : DfM Γ (He.ga K "Look") "same" "Look.same" s_Lk_same ["self", "other"] := dfm_of (c.fact 46 rfl) (c.fact 60 rfl) F_Lk_same b_Lk_same
  obtain ⟨fd_here, F_here⟩ := c.def_ 37 rfl
  have b_here : Binds K fd_here [] [] := FunD.bindsN F_here fun _ _ _ _ _ _ us hl => match us, hl with | [], _ => rfl
  have d_here : Dfn Γ "here" s_here [] := dfn_of X N (c.fact 61 rfl) F_here b_here
  obtain ⟨fd_always, F_always⟩ := c.def_ 38 rfl
  have b_always : Binds K fd_always [] [] := FunD.bindsN F_always fun _ _ _ _ _ _ us hl => match us, hl with | [], _ => rfl
  have d_always : Dfn Γ "always" s_always [] := dfn_of X N (c.fact 62 rfl) F_always b_always
  obtain ⟨fd_marked, F_marked⟩ := c.def_ 39 rfl
  have b_marked : Binds K fd_marked ["name"] [] := FunD.bindsN F_marked fun _ _ _ _ _ _ us hl => match us, hl with | [_], _ => rfl
  have d_marked : Dfn Γ "marked" s_marked ["name"] := dfn_of X N (c.fact 63 rfl) F_marked b_marked
  obtain ⟨fd_step, F_step⟩ := c.def_ 40 rfl
  have d_step : DfD Γ "step" s_step ["kind", "by"] [.int 1] := dfd_step X N (c.fact 64 rfl) F_step
  obtain ⟨fd_leaf, F_leaf⟩ := c.def_ 41 rfl
  have b_leaf : Binds K fd_leaf ["_law_box_here", "_law_kinds_so", "_law_short"] [] := FunD.bindsN F_leaf fun _ _ _ _ _ _ us hl => match us, hl with | [_, _, _], _ => rfl
  have d_leaf : Dfn Γ "_law_leaf" s_leaf ["_law_box_here", "_law_kinds_so", "_law_short"] := dfn_of X N (c.fact 65 rfl) F_leaf b_leaf
  obtain ⟨fd_look, F_look⟩ := c.def_ 42 rfl
  have b_look : Binds K fd_look ["_law_box_here", "_law_most", "_law_kinds_so", "_law_marks_so", "_law_short"] [] := FunD.bindsN F_look fun _ _ _ _ _ _ us hl => match us, hl with | [_, _, _, _, _], _ => rfl
  have d_look : Dfn Γ "_law_look" s_look ["_law_box_here", "_law_most", "_law_kinds_so", "_law_marks_so", "_law_short"] := dfn_of X N (c.fact 66 rfl) F_look b_look
  obtain ⟨fd_test, F_test⟩ := c.def_ 43 rfl
  have b_test : Binds K fd_test ["_law_box_here", "_law_most", "_law_kinds_so", "_law_marks_so", "_law_short"] [] := FunD.bindsN F_test fun _ _ _ _ _ _ us hl => match us, hl with | [_, _, _, _, _], _ => rfl
  have d_test : Dfn Γ "_law_test" s_test ["_law_box_here", "_law_most", "_law_kinds_so", "_law_marks_so", "_law_short"] := dfn_of X N (c.fact 67 rfl) F_test b_test
  obtain ⟨fd_mlook, F_mlook⟩ := c.def_ 44 rfl
  have b_mlook : Binds K fd_mlook ["_law_tree"] [] := FunD.bindsN F_mlook fun _ _ _ _ _ _ us hl => match us, hl with | [_], _ => rfl
  have d_mlook : Dfn Γ "_law_made_look" s_mlook ["_law_tree"] := dfn_of X N (c.fact 68 rfl) F_mlook b_mlook
  obtain ⟨fd_mtest, F_mtest⟩ := c.def_ 45 rfl
  have b_mtest : Binds K fd_mtest ["_law_tree"] [] := FunD.bindsN F_mtest fun _ _ _ _ _ _ us hl => match us, hl with | [_], _ => rfl
  have d_mtest : Dfn Γ "_law_made_test" s_mtest ["_law_tree"] := dfn_of X N (c.fact 69 rfl) F_mtest b_mtest
  obtain ⟨fd_grouped, F_grouped⟩ := c.def_ 46 rfl
  have b_grouped : Binds K fd_grouped ["_law_tree", "_law_many"] [] := FunD.bindsN F_grouped fun _ _ _ _ _ _ us hl => match us, hl with | [_, _], _ => rfl
  have d_grouped : Dfn Γ "_law_grouped" s_grouped ["_law_tree", "_law_many"] := dfn_of X N (c.fact 70 rfl) F_grouped b_grouped
  obtain ⟨fd_turned, F_turned⟩ := c.def_ 47 rfl
  have b_turned : Binds K fd_turned ["_law_tree"] [] := FunD.bindsN F_turned fun _ _ _ _ _ _ us hl => match us, hl with | [_], _ => rfl
  have d_turned : Dfn Γ "_law_turned" s_turned ["_law_tree"] := dfn_of X N (c.fact 71 rfl) F_turned b_turned
  obtain ⟨fd_told, F_told⟩ := c.def_ 48 rfl
  have b_told : Binds K fd_told ["_law_tree", "_law_word"] [] := FunD.bindsN F_told fun _ _ _ _ _ _ us hl => match us, hl with | [_, _], _ => rfl
  have d_told : Dfn Γ "_law_told" s_told ["_law_tree", "_law_word"] := dfn_of X N (c.fact 72 rfl) F_told b_told
  obtain ⟨fd_shown, F_shown⟩ := c.def_ 49 rfl
  have b_shown : Binds K fd_shown ["_law_own", "_law_tree"] [] := FunD.bindsN F_shown fun _ _ _ _ _ _ us hl => match us, hl with | [_, _], _ => rfl
  have d_shown : Dfn Γ "_law_shown" s_shown ["_law_own", "_law_tree"] := dfn_of X N (c.fact 73 rfl) F_shown b_shown
  obtain ⟨fd_powers, F_powers⟩ := c.def_ 50 rfl
  have b_powers : Binds K fd_powers ["_law_kind", "_law_own", "_law_tree"] [] := FunD.bindsN F_powers fun _ _ _ _ _ _ us hl => match us, hl with | [_, _, _], _ => rfl
  have d_powers : Dfn Γ "_law_powers" s_powers ["_law_kind", "_law_own", "_law_tree"] := dfn_of X N (c.fact 74 rfl) F_powers b_powers
  obtain ⟨fd_right, F_right⟩ := c.def_ 51 rfl
  have b_right : Binds K fd_right ["_law_box_here"] [] := FunD.bindsN F_right fun _ _ _ _ _ _ us hl => match us, hl with | [_], _ => rfl
  have d_right : Dfn Γ "_law_right" s_right ["_law_box_here"] := dfn_of X N (c.fact 75 rfl) F_right b_right

  have KE0 : KE Γ (He.ga K "Look") (He.ga K "Test") := ke_of X N (c.fact 78 rfl)
  have KP : KPw Γ (He.ga K "Look") := kpw_of (c.fact 79 rfl)
  have KI : KIn Γ (He.ga K "Look") := kin_of (c.fact 80 rfl)
  have mL := mkr_of (c.fact 81 rfl)
  have mT := mkr_of (c.fact 82 rfl)
  have gcL : ∃ u, Γ.mg "LETTERS" = some u ∧ RelV (.str LET) u := by
    obtain ⟨t, e⟩ := He.str_ok X N (c.fact 77 rfl)
    exact ⟨_, e, t, rfl⟩
  have dp : ∀ t : Tr, 1 ≤ t.dep := fun t => by cases t <;> simp [Tr.dep]
  -- the program
  have c_isnum := cl_isnum d_isnum T
  have c_isname := cl_isname d_isname T gcL
  have c_backof : ∀ d, Cl Γ CX0 (d + 1) "back_of" (spBackOf K d) [] := fun d => by
    induction d with
    | zero => exact d_backof.cl_no sc_backof fun vs H Q E ⟨p, t, _, _, _, hd, _⟩ => by have := dp t; omega
    | succ d ih => exact cl_backof d_backof T ih
  have c_rep := cl_rep d_rep T
  have c_parts := cl_parts d_parts T
  have c_names_in : ∀ d, Cl Γ CX0 (d + 1) "names_in" (spNames K d) [] := fun d => by
    induction d with
    | zero => exact d_names_in.cl_no sc_names_in fun vs H Q E ⟨p, t, _, _, _, _, _, hd, _⟩ => by have := dp t; omega
    | succ d ih => exact cl_names_in d_names_in T ih c_parts
  have c_steps_in : ∀ d, Cl Γ CX0 (d + 1) "steps_in" (spSteps K d) [] := fun d => by
    induction d with
    | zero => exact d_steps_in.cl_no sc_steps_in fun vs H Q E ⟨p, t, _, _, _, hd, _⟩ => by have := dp t; omega
    | succ d ih => exact cl_steps_in d_steps_in T ih c_parts
  have L := KE0.L
  have LT := KE0.T
  have kL : Mkr Γ CX0 1 "Look" (He.ga K "Look") (spInit (He.ga K "Look")) [] := (cl_Lk_init d_Lk_init T L).mkr mL.makes mL.kp L.mg
  have kT : Mkr Γ CX0 1 "Test" (He.ga K "Test") (spInit (He.ga K "Test")) [] := (cl_Ts_init d_Ts_init T LT).mkr mT.makes mT.kp LT.mg
  have pL := cl_Lk_tree d_Lk_tree T L
  have pT := cl_Ts_tree d_Ts_tree T LT
  have KCL : KC Γ "Look" (He.ga K "Look") 60 := ⟨L, pL, cl_Lk_kinds d_Lk_kinds T L (c_names_in 60), cl_Lk_marks d_Lk_marks T L (c_names_in 60), cl_Lk_steps d_Lk_steps T L (c_steps_in 60)⟩
  have KCT : KC Γ "Test" (He.ga K "Test") 60 := ⟨LT, pT, cl_Ts_kinds d_Ts_kinds T LT (c_names_in 60), cl_Ts_marks d_Ts_marks T LT (c_names_in 60), cl_Ts_steps d_Ts_steps T LT (c_steps_in 60)⟩
  have eqL := cl_Lk_eq d_Lk_eq T L
  have eqT := cl_Ts_eq d_Ts_eq T LT
  have t_and := cl_Ts_and d_Ts_and T LT kT
  have t_or := cl_Ts_or d_Ts_or T LT kT
  have t_xor := cl_Ts_xor d_Ts_xor T LT kT
  have t_not := cl_Ts_not d_Ts_not T LT kT
  have l_then := cl_Lk_then d_Lk_then T L kL
  have l_or := cl_Lk_or d_Lk_or T L kL
  have l_and := cl_Lk_and d_Lk_and T L kL
  have l_neg := cl_Lk_neg d_Lk_neg T L kL (c_backof 60)
  have l_pow := cl_Lk_pow d_Lk_pow T L kL c_isnum c_rep
  have l_when := cl_Lk_when d_Lk_when T L kL pT
  have l_found := cl_Lk_found d_Lk_found T L kT
  have l_same := cl_Lk_same d_Lk_same T L kT pL
  have c_here := cl_here d_here T kL
  have c_always := cl_always d_always T kT
  have c_marked := cl_marked d_marked T kT c_isname
  have c_step := cl_step d_step T kL c_isname c_isnum c_rep
  -- the law
  have c_take := cl_take d_take T
  have c_box := cl_box d_box T
  have c_of := cl_of d_of T c_take
  have c_cells := cl_cells d_cells T
  have c_pick := cl_pick d_pick T c_take
  have c_names := cl_names d_names T c_take c_of c_pick
  have c_leaf := cl_leaf d_leaf T c_take c_of
  have c_lt : ∀ d, Cl Γ CX0 (2 * d + 3) "_law_look" (spLook K d) [] ∧ Cl Γ CX0 (2 * d + 4) "_law_test" (spTest K d) [] := fun d => by
    induction d with
    | zero =>
      exact ⟨(d_look.cl_no sc_look fun vs H Q E ⟨_, _, _, _, _, m, _, _, _, _, _, _, h1, h2, _⟩ => by omega).imp (fun _ _ _ _ h => h) (by omega), (d_test.cl_no sc_test fun vs H Q E ⟨_, _, _, _, _, m, _, _, _, _, _, _, h1, h2, _⟩ => by omega).imp (fun _ _ _ _ h => h) (by omega)⟩
    | succ d ih =>
      have hl := cl_look d_look T c_take c_of c_leaf ih.1 ih.2
      exact ⟨hl, cl_test d_test T c_take c_of c_leaf hl ih.2⟩
  have c_mk : ∀ d, Cl Γ CX0 (d + 3) "_law_made_look" (spMade K (He.ga K "Look") false d) [] ∧ Cl Γ CX0 (d + 3) "_law_made_test" (spMade K (He.ga K "Test") true d) [] := fun d => by
    induction d with
    | zero =>
      exact ⟨(d_mlook.cl_no sc_mlook fun vs H Q E ⟨p, t, _, _, _, _, _, _, _, hd, _⟩ => by have := dp t; omega).imp (fun _ _ _ _ h => h) (by omega), (d_mtest.cl_no sc_mtest fun vs H Q E ⟨p, t, _, _, _, _, _, _, _, hd, _⟩ => by have := dp t; omega).imp (fun _ _ _ _ h => h) (by omega)⟩
    | succ d ih => exact ⟨cl_mlook d_mlook T L c_here c_step.all c_step.few ih.1 ih.2 l_when l_then l_or l_and, cl_mtest d_mtest T LT c_always c_marked ih.1 ih.2 l_found l_same t_not t_and t_or t_xor⟩
  have c_grouped := cl_grouped d_grouped T
  have c_turned : ∀ d, Cl Γ CX0 (d + 1) "_law_turned" (spBackOf K d) [] := fun d => by
    induction d with
    | zero => exact d_turned.cl_no sc_turned fun vs H Q E ⟨p, t, _, _, _, hd, _⟩ => by have := dp t; omega
    | succ d ih => exact cl_turned d_turned T ih
  have c_told : ∀ d, Cl Γ CX0 (d + 1) "_law_told" (spToldL K d) [] := fun d => by
    induction d with
    | zero => exact d_told.cl_no sc_told fun vs H Q E ⟨p, t, _, _, _, _, _, hd, _⟩ => by have := dp t; omega
    | succ d ih => exact cl_told d_told T ih
  have c_shown := cl_shown d_shown T (d := 60) (by omega) (c_told 60)
  have c_powers := cl_powers d_powers T KE0 KP KCL c_step.all c_step.kw c_here c_grouped eqL l_neg l_pow
  have wk : ∀ {j k : Nat} {x : Str} {sp : Sp} {dvs : List V}, Cl Γ CX0 k x sp dvs → k ≤ j → Cl Γ CX0 j x sp dvs := fun c h => c.imp (fun _ _ _ _ z => z) h
  have c_right := cl_right d_right T KE0 KI KCL KCT c_take c_names (wk (c_lt 8).1 (by omega)) (wk (c_lt 8).2 (by omega)) c_leaf (wk (c_mk 30).1 (by omega)) (wk (c_mk 30).2 (by omega)) (wk c_shown (by omega)) (wk (c_turned 60) (by omega)) c_powers c_here c_always eqL eqT l_neg l_when l_then l_or l_and l_found l_same t_not t_and t_or t_xor
  exact cl_law (Γ := Γ) (fun_of F_law) T c_cells c_box c_right
end K
open PySem PySem.W PySem.Calls PyProof.Rows
set_option maxRecDepth 100000 in
set_option maxHeartbeats 0 in
theorem PySem.Challenge.cw_linelooks_k05_trees_holds : PySem.Challenge.rw_linelooks_k05_trees.Holds := by
  w_on; o_law
  refine HandSHeadRun.head_any (r := OpenLaw.row PySem.Challenge.rw_linelooks_k05_trees) (q := view (OpenLaw.row PySem.Challenge.rw_linelooks_k05_trees).prog [42]) (H := K.hk) (ob := K.ob) (M := 20000) (loose := K.loose) (d := HandSHeadRun.topDef (OpenLaw.row PySem.Challenge.rw_linelooks_k05_trees).prog 42) (kwd := []) K.ob_eq
    (by kernel_rfl) (fun s => by kernel_rfl) K.run (by kernel_rfl) (by kernel_rfl) (by kernel_rfl) (by rfl) (by first | assumption | decide +kernel) (by decide +kernel) ⟨rfl, rfl, rfl, rfl, rfl, by decide +kernel⟩ ?hw ?hc
  case hw => w_witness2
  case hc =>
    refine L2.walk_ofE (l := PySem.Challenge.rw_linelooks_k05_trees) (n := 63) (k := 210) (x := "_law_script") (CX := L2.CX0) rfl (by decide) (by kernel_rfl) ⟨rfl, by decide, by decide⟩ ?F (fun _ _ _ _ z => z)
    intro w mg fa h Y G hmg0
    obtain ⟨K', KX, c⟩ := Y
    have hmg : mg ("law" : PySem.Str) = some (.ref fa) := by
      have e : (HandSHeadRun.topDef (OpenLaw.row PySem.Challenge.rw_linelooks_k05_trees).prog 42).name = ("law" : PySem.Str) := by kernel_rfl
      rw [← e]
      exact hmg0
    obtain ⟨fd, hb, hF⟩ := K.all_mk (P := (PySem.Challenge.rw_linelooks_k05_trees).prog) (w := w) KX G hmg c
    exact ⟨K', fd, K.spLaw K', KX, hb, fun H a ns hl _ hS => ⟨a, ns, rfl, hS, hl, fun _ => rfl⟩, hF⟩
