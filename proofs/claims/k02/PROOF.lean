import PyProof.Rows.All
import Wide.All
import OpenK.AllK
import Wide.FinOn
import HandS.ForMost
import HandS.ForExc
import HandS.Flow
import HandS.Style
import HandS.TupAny
import HandS.Codes
import HandS.Words
import HandS.List
import HandS.Dict
import HandS.Walk
import HandS.Property
import HandS.IsInst
import HandS.Defaults
import HandS.SlotsOwn
import PyProof.InstEq
import HandS.Set
import HandS.SetFor
import HandS.SetKeys
import HandS.TupSets
import PyProof.CollectStr
import KE.KDictList
import HandS.Conv
import HandS.DictComp
import HandS.Small
import HandS.Star
import HandS.More
import KE.KOpsOwn
import HandS.Iter
import KE.KTupSum
import PyProof.TupleIter
import KE.SortData
import HandS.SortInts
import HandS.Comp
import KE.KStar
import HandS.MethStar
import HandS.Zip
import HandS.TupMul
import HandS.Head0
import HandS.Head1
import HandS.Head2
import HandS.HeadEnd
import HandS.HeadHook1
import HandS.HeadHook2
import HandS.ExcCtx
import HandS.ExcInit
import HandS.ExcField
import HandS.ExcIs
import HandS.CallSlots
import PyProof.P3Eq
import HandS.MakeKw
import HandS.NoneIn
import KE.KExcIs
import PySem.Challenge.RW_linelooks_k02_tables_made_again
set_option Elab.async false
set_option linter.all false
set_option maxRecDepth 100000
set_option maxHeartbeats 4000000
namespace G
open PySem PySem.Spec PyProof.Rows L2

/-! ### where one stands: the program, the world, what the text has written -/
structure Gm where
  P : Program
  w : World
  K : PySem.W.Frag
  mg : Str → Option Value
  base : Heap
  lv : Nat := 0
/-- the same, with room for calls n deep -/
abbrev Gm.at (Γ : Gm) (n : Nat) : Gm := { Γ with lv := n }
structure Good (Γ : Gm) (X : Cx) : Prop where
  P : X.prog = Γ.P
  w : X.w = Γ.w
  K : X.K = Γ.K
  mg : X.mg = Γ.mg
  base : X.base = Γ.base
  calm : X.calm = true
  room : Room Γ.lv X.A
theorem Good.blk {Γ : Gm} {X : Cx} (g : Good Γ X) {s : Shared} {H : Hp} {scope : Scope} {cenv : Env} {fp : List Addr} : Good Γ (X.blk s H scope cenv fp) := ⟨g.P, g.w, g.K, g.mg, g.base, g.calm, g.room⟩
theorem Good.of {Γ : Gm} {CX : CXT} {N : List Str} {qual : Str} {scope : Scope} {f : Addr} {cd : Value} {A : Around} {outer : List Env} {s : Shared} {H : Hp} {E : XK} {k : Nat} (hr : Room k (A.deeper (envOfC qual scope s.heap.objs.size f cd))) :
    Good (Γ.at k) (cxOf CX Γ.P Γ.w Γ.K Γ.mg Γ.base N qual scope f cd A outer s H E) := ⟨rfl, rfl, rfl, rfl, rfl, rfl, hr⟩
theorem Good.nox {Γ : Gm} {X : Cx} (g : Good Γ X) : Good Γ X.nox := ⟨g.P, g.w, g.K, g.mg, g.base, g.calm, g.room⟩
theorem Good.hu {Γ : Gm} {X : Cx} (g : Good Γ X) : X.A.units + 1 < cLine := hu_of (g.room.mono (Nat.zero_le _))
theorem Good.hu64 {Γ : Gm} {X : Cx} (g : Good Γ X) : X.A.units + 64 < cLine := g.room.units

/-! ### weakest rules by values: which rule serves is chosen when the values are known -/
section
variable {Γ : Gm} {X : Cx}
def WO (Γ : Gm) (f : Value → Value → Sem Value) : R2 := fun x y H Q => ∃ r, (∀ X, Good Γ X → OpR X f r) ∧ r x y H Q
theorem WO.ok (g : Good Γ X) {f : Value → Value → Sem Value} : OpR X f (WO Γ f) := fun pins s σ H x y v u Q I rx ry ⟨r, h, q⟩ => h X g pins s σ H x y v u Q I rx ry q
def WU (Γ : Gm) (f : Value → Sem Value) : V → Hp → VK → Prop := fun x H Q => ∃ r, (∀ X, Good Γ X → UnR X f r) ∧ r x H Q
theorem WU.ok (g : Good Γ X) {f : Value → Sem Value} : UnR X f (WU Γ f) := fun pins s σ H x v Q I rx ⟨r, h, q⟩ => h X g pins s σ H x v Q I rx q
def WC (Γ : Gm) (f : Value) : List V → Hp → VK → Prop := fun xs H Q => ∃ r, (∀ X, Good Γ X → CallR X f r) ∧ r xs H Q
theorem WC.ok (g : Good Γ X) {f : Value} : CallR X f (WC Γ f) := fun pins s σ H xs us Q I r ⟨_, h, q⟩ => h X g pins s σ H xs us Q I r q
def WX (Γ : Gm) : R2 := fun x y H Q => ∃ r, (∀ X, Good Γ X → IxR X r) ∧ r x y H Q
theorem WX.ok (g : Good Γ X) : IxR X (WX Γ) := fun value slice pins s σ H x y v u Q I rx ry ⟨_, h, q⟩ hs => h X g value slice pins s σ H x y v u Q I rx ry q hs
def WL (Γ : Gm) : V → Option Int → Option Int → Hp → VK → Prop := fun x lo hi H Q => ∃ r, (∀ X, Good Γ X → SlR X r) ∧ r x lo hi H Q
theorem WL.ok (g : Good Γ X) : SlR X (WL Γ) := fun pins s σ H x v vl vu lo hi sl Q I rx hs pl pu ⟨_, h, q⟩ => h X g pins s σ H x v vl vu lo hi sl Q I rx hs pl pu q
def WP (Γ : Gm) : TSet := fun o i v H Q => ∃ t, (∀ X, Good Γ X → PSet X t) ∧ t o i v H Q
theorem WP.ok (g : Good Γ X) : PSet X (WP Γ) := fun pins s σ H o i v ov iv u Q I ro ri rv ⟨_, h, q⟩ => h X g pins s σ H o i v ov iv u Q I ro ri rv q
def WI (Γ : Gm) (op : Operator) : TIp := fun x y H Q => ∃ t, (∀ X, Good Γ X → PIp X op t) ∧ t x y H Q
theorem WI.ok (g : Good Γ X) {op : Operator} : PIp X op (WI Γ op) := fun pins s σ H x y v u Q I rx ry ⟨_, h, q⟩ => h X g pins s σ H x y v u Q I rx ry q
end

/-! ### ints -/
section
variable {Γ : Gm} {H : Hp} {Q : VK} {i j : Int}
theorem wo_add (h : Q (.int (i + j)) H) : WO Γ (binaryOp .Add) (.int i) (.int j) H Q := ⟨_, fun _ _ => op_add, i, j, rfl, rfl, h⟩
theorem wo_sub (h : Q (.int (i - j)) H) : WO Γ (binaryOp .Sub) (.int i) (.int j) H Q := ⟨_, fun _ _ => op_sub, i, j, rfl, rfl, h⟩
theorem wo_mulL (h1 : -(2 ^ 64) < i) (h2 : i < 2 ^ 64) (h : Q (.int (i * j)) H) : WO Γ (binaryOp .Mult) (.int i) (.int j) H Q := ⟨_, fun _ _ => op_mul, i, j, rfl, rfl, .inl ⟨h1, h2⟩, h⟩
theorem wo_mulR (h1 : -(2 ^ 64) < j) (h2 : j < 2 ^ 64) (h : Q (.int (i * j)) H) : WO Γ (binaryOp .Mult) (.int i) (.int j) H Q := ⟨_, fun _ _ => op_mul, i, j, rfl, rfl, .inr ⟨h1, h2⟩, h⟩
theorem wo_fdiv (h1 : 0 < j) (h2 : j < 1073741824) (h : Q (.int (i / j)) H) : WO Γ (binaryOp .FloorDiv) (.int i) (.int j) H Q := ⟨_, fun _ _ => op_fdiv, i, j, rfl, rfl, ⟨h1, h2⟩, h⟩
theorem wo_mod (hb : 0 < j) (h : Q (.int (i % j)) H) : WO Γ (binaryOp .Mod) (.int i) (.int j) H Q := ⟨_, fun _ _ => op_mod, i, j, rfl, rfl, hb, h⟩
theorem wo_pow (h1 : 0 ≤ j) (h2 : j ≤ 1000000) (h3 : i.natAbs < 2 ^ 64) (h : Q (.int (i ^ j.toNat)) H) : WO Γ (binaryOp .Pow) (.int i) (.int j) H Q := ⟨_, fun _ _ => op_pow, i, j, rfl, rfl, ⟨h1, h2, h3⟩, h⟩
theorem wo_lt (h : Q (.bl (decide (i < j))) H) : WO Γ (compareOp .Lt) (.int i) (.int j) H Q := ⟨_, fun _ _ => op_lt, i, j, rfl, rfl, h⟩
theorem wo_le (h : Q (.bl (decide (i ≤ j))) H) : WO Γ (compareOp .LtE) (.int i) (.int j) H Q := ⟨_, fun _ _ => op_le, i, j, rfl, rfl, h⟩
theorem wo_gt (h : Q (.bl (decide (j < i))) H) : WO Γ (compareOp .Gt) (.int i) (.int j) H Q := ⟨_, fun _ _ => op_gt, i, j, rfl, rfl, h⟩
theorem wo_ge (h : Q (.bl (decide (j ≤ i))) H) : WO Γ (compareOp .GtE) (.int i) (.int j) H Q := ⟨_, fun _ _ => op_ge, i, j, rfl, rfl, h⟩
theorem wo_eqI (h : Q (.bl (decide (i = j))) H) : WO Γ (compareOp .Eq) (.int i) (.int j) H Q := ⟨_, fun _ _ => op_eq, rfl, by
  have e : decide (V.int i = V.int j) = decide (i = j) := decide_eq_decide.mpr ⟨fun z => V.int.inj z, fun z => by rw [z]⟩
  rw [e]; exact h⟩
theorem wo_neI (h : Q (.bl (!decide (i = j))) H) : WO Γ (compareOp .NotEq) (.int i) (.int j) H Q := ⟨_, fun _ _ => op_ne, rfl, by
  have e : decide (V.int i = V.int j) = decide (i = j) := decide_eq_decide.mpr ⟨fun z => V.int.inj z, fun z => by rw [z]⟩
  rw [e]; exact h⟩
theorem wo_eqS {x y : Str} (h : Q (.bl (decide (x = y))) H) : WO Γ (compareOp .Eq) (.str x) (.str y) H Q := ⟨_, fun _ _ => op_eq, rfl, by
  have e : decide (V.str x = V.str y) = decide (x = y) := decide_eq_decide.mpr ⟨fun z => V.str.inj z, fun z => by rw [z]⟩
  rw [e]; exact h⟩
theorem wo_neS {x y : Str} (h : Q (.bl (!decide (x = y))) H) : WO Γ (compareOp .NotEq) (.str x) (.str y) H Q := ⟨_, fun _ _ => op_ne, rfl, by
  have e : decide (V.str x = V.str y) = decide (x = y) := decide_eq_decide.mpr ⟨fun z => V.str.inj z, fun z => by rw [z]⟩
  rw [e]; exact h⟩
theorem wo_isN {x : V} (h : Q (.bl (decide (x = .non))) H) : WO Γ (compareOp .Is) x .non H Q := ⟨_, fun _ _ => op_isN, rfl, h⟩
theorem wo_notN {x : V} (h : Q (.bl (!decide (x = .non))) H) : WO Γ (compareOp .IsNot) x .non H Q := ⟨_, fun _ _ => op_notN, rfl, h⟩
theorem wu_neg (h : Q (.int (-i)) H) : WU Γ (unaryOp .USub) (.int i) H Q := ⟨_, fun _ _ => un_neg, i, rfl, h⟩
theorem wc_abs (h : Q (.int (if i < 0 then -i else i)) H) : WC Γ (.builtin "abs") [.int i] H Q := ⟨_, fun _ _ => call_abs, i, rfl, h⟩
theorem wc_int (h : Q (.int i) H) : WC Γ (.type "int") [.int i] H Q := ⟨_, fun _ _ => call_int1, .inl ⟨i, rfl, h⟩⟩
theorem wc_intB {b : Bool} (h : Q (.int (if b then 1 else 0)) H) : WC Γ (.type "int") [.bl b] H Q := ⟨_, fun _ _ => call_int1, .inr ⟨b, rfl, h⟩⟩
theorem wc_min2 (h : Q (.int (if j < i then j else i)) H) : WC Γ (.builtin "min") [.int i, .int j] H Q := ⟨_, fun _ g => call_min2 g.calm, i, j, rfl, h⟩
theorem wc_max2 (h : Q (.int (if j > i then j else i)) H) : WC Γ (.builtin "max") [.int i, .int j] H Q := ⟨_, fun _ g => call_max2 g.calm, i, j, rfl, h⟩
end

/-! ### the built-in names -/
theorem bt_len : bootBuiltins "len" = some (.builtin "len") := by first | exact PyProof.Rows.boot_len | exact PySem.boot_len | decide +kernel
theorem bt_abs : bootBuiltins "abs" = some (.builtin "abs") := by first | exact PyProof.Rows.boot_abs | exact PySem.boot_abs | decide +kernel
theorem bt_min : bootBuiltins "min" = some (.builtin "min") := by first | exact PyProof.Rows.boot_min | exact PySem.boot_min | decide +kernel
theorem bt_max : bootBuiltins "max" = some (.builtin "max") := by first | exact PyProof.Rows.boot_max | exact PySem.boot_max | decide +kernel
theorem bt_sum : bootBuiltins "sum" = some (.builtin "sum") := by first | exact PyProof.Rows.boot_sum | exact PySem.boot_sum | decide +kernel
theorem bt_sorted : bootBuiltins "sorted" = some (.builtin "sorted") := by first | exact PyProof.Rows.boot_sorted | exact PySem.boot_sorted | decide +kernel
theorem bt_all : bootBuiltins "all" = some (.builtin "all") := by first | exact PyProof.Rows.boot_all | exact PySem.boot_all | decide +kernel
theorem bt_any : bootBuiltins "any" = some (.builtin "any") := by first | exact PyProof.Rows.boot_any | exact PySem.boot_any | decide +kernel
theorem bt_isinstance : bootBuiltins "isinstance" = some (.builtin "isinstance") := by first | exact PyProof.Rows.boot_isinstance | exact PySem.boot_isinstance | decide +kernel
theorem bt_ord : bootBuiltins "ord" = some (.builtin "ord") := by first | exact PyProof.Rows.boot_ord | exact PySem.boot_ord | decide +kernel
theorem bt_chr : bootBuiltins "chr" = some (.builtin "chr") := by first | exact PyProof.Rows.boot_chr | exact PySem.boot_chr | decide +kernel
theorem bt_int : bootBuiltins "int" = some (.type "int") := by first | exact PyProof.Rows.boot_int | exact PySem.boot_int | decide +kernel
theorem bt_str : bootBuiltins "str" = some (.type "str") := by first | exact PyProof.Rows.boot_str | exact PySem.boot_str | decide +kernel
theorem bt_list : bootBuiltins "list" = some (.type "list") := by first | exact PyProof.Rows.boot_list | exact PySem.boot_list | decide +kernel
theorem bt_tuple : bootBuiltins "tuple" = some (.type "tuple") := by first | exact PyProof.Rows.boot_tuple | exact PySem.boot_tuple | decide +kernel
theorem bt_set : bootBuiltins "set" = some (.type "set") := by first | exact PyProof.Rows.boot_set | exact PySem.boot_set | decide +kernel
theorem bt_dict : bootBuiltins "dict" = some (.type "dict") := by first | exact PyProof.Rows.boot_dict | exact PySem.boot_dict | decide +kernel
theorem bt_bool : bootBuiltins "bool" = some (.type "bool") := by first | exact PyProof.Rows.boot_bool | exact PySem.boot_bool | decide +kernel
theorem bt_enumerate : bootBuiltins "enumerate" = some (.type "enumerate") := by first | exact PyProof.Rows.boot_enumerate | exact PySem.boot_enumerate | decide +kernel
theorem bt_zip : bootBuiltins "zip" = some (.type "zip") := by first | exact PyProof.Rows.boot_zip | exact PySem.boot_zip | decide +kernel
theorem bt_reversed : bootBuiltins "reversed" = some (.type "reversed") := by first | exact PyProof.Rows.boot_reversed | exact PySem.boot_reversed | decide +kernel
theorem bt_range : bootBuiltins "range" = some (.type "range") := by first | exact PyProof.Rows.boot_range | exact PySem.boot_range | decide +kernel

/-! ### defs: where they stand, what they promise -/
/-- a def of the module, every parameter given -/
structure Dfn (Γ : Gm) (x : Str) (st : Stmt) (ps : List Str) : Prop where
  ex : ∃ (f : Addr) (fd : FuncData), L2.Fun Γ.K x x st f fd ∧ Γ.mg x = some (.ref f) ∧ Binds Γ.K fd ps []
/-- what a def (at its name) promises; dvs: its defaults behind what is given -/
structure Cl (Γ : Gm) (CX : CXT) (k : Nat) (x : Str) (sp : Sp) (dvs : List V) : Prop where
  ex : ∃ (f : Addr) (fd : FuncData) (ps : List Str) (ds : List Value), FnOk Γ.P Γ.w Γ.K Γ.mg Γ.base CX k f fd ps sp ∧ Γ.mg x = some (.ref f) ∧ PySem.W.keepIn Γ.K (.ref f) = true ∧ Binds Γ.K fd ps ds ∧ Vals dvs ds
theorem Dfn.cl {Γ : Gm} {x : Str} {st : Stmt} {ps N : List Str} {k : Nat} {sp : Sp} (d : Dfn Γ x st ps) (S : FnScope N ps (defScope st)) (len : ∀ vs H Q E, sp vs H Q E → vs.length = ps.length)
    (hbody : ∀ (f : Addr) (cdv : Value) (A : Around) (outer : List Env) (s : Shared) (H : Hp) (vs : List V) (Q : VK) (E : XK), Good (Γ.at k) (cxOf CX0 Γ.P Γ.w Γ.K Γ.mg Γ.base N x (defScope st) f cdv A outer s H E).nox → sp vs H Q E →
      ∃ t, PSs (cxOf CX0 Γ.P Γ.w Γ.K Γ.mg Γ.base N x (defScope st) f cdv A outer s H E).nox (defBody st) t ∧ t { nx := fun _ H' => Q .non H', rt := Q } (L2.start N vs) H) : Cl Γ CX0 (k + 1) x sp [] := by
  obtain ⟨f, fd, F, m, b⟩ := d.ex
  exact ⟨f, fd, ps, [], F.ok S len fun cdv A outer s H vs Q E hr h => hbody f cdv A outer s H vs Q E (Good.of hr).nox h, m, F.kp, b, .nil⟩
/-- nothing is asked of it -/
theorem Dfn.cl_no {Γ : Gm} {x : Str} {st : Stmt} {ps N : List Str} {sp : Sp} (d : Dfn Γ x st ps) (S : FnScope N ps (defScope st)) (no : ∀ vs H Q E, ¬ sp vs H Q E) : Cl Γ CX0 1 x sp [] :=
  d.cl (k := 0) S (fun vs H Q E h => (no vs H Q E h).elim) fun f cdv A outer s H vs Q E g h => (no vs H Q E h).elim
theorem Cl.imp {Γ : Gm} {CX : CXT} {j k : Nat} {x : Str} {sp sp' : Sp} {dvs : List V} (c : Cl Γ CX k x sp dvs) (h : ∀ vs H Q E, sp' vs H Q E → sp vs H Q E) (hk : k ≤ j) : Cl Γ CX j x sp' dvs := by
  obtain ⟨f, fd, ps, ds, F, r⟩ := c.ex
  exact ⟨f, fd, ps, ds, (F.imp h).mono hk, r⟩
section
variable {Γ : Gm} {X : Cx} {CX : CXT} {k j : Nat} {x : Str} {sp : Sp} {dvs : List V} {E : XK} {p pos : Pos} {e : Expr} {es : List Expr} {t : TA}
theorem pe_cl (c : Cl Γ CX k x sp dvs) (g : Good (Γ.at j) X) (hk : k ≤ j) (hg : Gl X x) (hx : Passes CX X E) (ha : PA X (e :: es) t)
    (hdb : (x == ("__debug__" : Str)) = false := by decide) (he : starEach (e :: es) X.env = (false, eval e X.env) :: starEach es X.env := by rfl) (hpl : (backTo pos (starEach es X.env)).any (·.1) = false := by rfl) :
    PE X (.Call (.Name x p) (e :: es) [] pos) (tCall sp dvs E t) := by
  obtain ⟨P, w, K, mg, base, lv⟩ := Γ
  obtain ⟨f, fd, ps, ds, F, m, kp, b, d⟩ := c.ex
  obtain ⟨h1, h2, h3, h4, h5, _, hr⟩ := g
  simp only at h1 h2 h3 h4 h5 hr
  subst h1 h2 h3 h4 h5
  exact pe_call (F.mono hk) hr hg m kp b d hx ha hdb he hpl
theorem pe_cl0 (c : Cl Γ CX k x sp dvs) (g : Good (Γ.at j) X) (hk : k ≤ j) (hg : Gl X x) (hx : Passes CX X E)
    (hdb : (x == ("__debug__" : Str)) = false := by decide) : PE X (.Call (.Name x p) [] [] pos) (tCall sp dvs E tNil) := by
  obtain ⟨P, w, K, mg, base, lv⟩ := Γ
  obtain ⟨f, fd, ps, ds, F, m, kp, b, d⟩ := c.ex
  obtain ⟨h1, h2, h3, h4, h5, _, hr⟩ := g
  simp only at h1 h2 h3 h4 h5 hr
  subst h1 h2 h3 h4 h5
  exact pe_call0 (F.mono hk) hr hg m kp b d hx hdb
end
end G
namespace G
open PySem PySem.Spec PyProof.Rows L2

/-! ### readings that reduce by computation where the values are known -/
/-- the i-th slot's value -/
def so : Option V → (V → Prop) → Prop
  | some v, k => k v
  | none, _ => False
def sl : L2.St → Nat → (V → Prop) → Prop
  | [], _, _ => False
  | o :: _, 0, k => so o k
  | _ :: r, n + 1, k => sl r n k
theorem sl_get : ∀ {σ : L2.St} {i : Nat} {k : V → Prop}, sl σ i k → ∃ v, σ[i]? = some (some v) ∧ k v
  | some v :: _, 0, k, h => ⟨v, rfl, h⟩
  | none :: _, 0, _, h => h.elim
  | o :: r, n + 1, k, h => by
    obtain ⟨v, e, q⟩ := sl_get (σ := r) (i := n) h
    exact ⟨v, by simpa using e, q⟩
  | [], _, _, h => h.elim
/-- the name x is a place of the def's own, i among N; it is no name that the machine treats apart -/
def nvB (N : List Str) (sc : Scope) (i : Nat) (x : Str) : Bool := decide (N[i]? = some x) && (sc.names.lookup x == some .local || sc.names.lookup x == some .cell || sc.names.lookup x == some .free) && !(x == ("__debug__" : Str)) && !(x == ("__classdict__" : Str))
/-- .. and it may be stored -/
def lvB (N : List Str) (sc : Scope) (i : Nat) (x : Str) : Bool := decide (N[i]? = some x) && (sc.names.lookup x == some .local || sc.names.lookup x == some .cell)
/-- the name x is a global one of the def -/
def gvB (sc : Scope) (x : Str) : Bool := (sc.names.lookup x == some .globalImplicit) && !(x == ("__debug__" : Str)) && !(x == ("__name__" : Str))
theorem nv_of {N : List Str} {sc : Scope} {i : Nat} {x : Str} (h : nvB N sc i x = true) : N[i]? = some x ∧ Vis sc x ∧ (x == ("__debug__" : Str)) = false ∧ (x == ("__classdict__" : Str)) = false := by
  unfold nvB at h
  simp only [Bool.and_eq_true, Bool.or_eq_true, decide_eq_true_eq, beq_iff_eq, Bool.not_eq_true'] at h
  obtain ⟨⟨⟨h1, h2⟩, h3⟩, h4⟩ := h
  exact ⟨h1, h2.elim (fun h => h.elim .inl fun h => .inr (.inl h)) fun h => .inr (.inr h), h3, h4⟩
theorem lv_of {N : List Str} {sc : Scope} {i : Nat} {x : Str} (h : lvB N sc i x = true) : N[i]? = some x ∧ Loc sc x := by
  unfold lvB at h
  simp only [Bool.and_eq_true, Bool.or_eq_true, decide_eq_true_eq, beq_iff_eq] at h
  exact ⟨h.1, h.2⟩
theorem gv_of {X : Cx} {x : Str} (h : gvB X.env.scope x = true) : Gl X x ∧ (x == ("__debug__" : Str)) = false ∧ x ≠ "__name__" := by
  unfold gvB at h
  simp only [Bool.and_eq_true, beq_iff_eq, Bool.not_eq_true'] at h
  exact ⟨h.1.1, h.1.2, fun z => by rw [z] at h; exact absurd h.2 (by simp)⟩
def tS (i : Nat) : TE := fun σ H Q => sl σ i fun v => Q v H
theorem ps (i : Nat) {X : Cx} {x : Str} {pos : Pos} (h : nvB X.N X.env.scope i x = true) : PE X (.Name x pos) (tS i) :=
  ⟨fun pins s σ H Q I q => (pe_var (nv_of h).1 (nv_of h).2.1 (nv_of h).2.2.1 (nv_of h).2.2.2).run pins s σ H Q I (sl_get q)⟩
/-- the same within a comprehension's block -/
theorem psr (i : Nat) {X : Cx} {x : Str} {pos : Pos} (hN : X.N[i]? = some x := by rfl) (hv : Vis X.env.scope x := by first | exact Or.inl rfl | exact Or.inr (Or.inl rfl) | exact Or.inr (Or.inr rfl)) (hd : (x == ("__debug__" : Str)) = false := by decide)
    (hcd : (x == ("__classdict__" : Str)) = false := by decide) : PE X (.Name x pos) (tS i) :=
  ⟨fun pins s σ H Q I h => (pe_var hN hv hd hcd).run pins s σ H Q I (sl_get h)⟩
theorem pgn {i : Nat} {X : Cx} {x : Str} {pos : Pos} (hN : X.N.Nodup) (h : lvB X.N X.env.scope i x = true) (hf : X.fn x = true ∨ X.env.scope.names.lookup x = some .local := by first | exact .inl rfl | exact .inr rfl) : PG X (.Name x pos) (gName i) := pg_name hN (lv_of h).1 (lv_of h).2 hf
theorem pst {i : Nat} {X : Cx} {x : Str} {e : Expr} {te : TE} {pos pos' : Pos} (hN : X.N.Nodup) (h : lvB X.N X.env.scope i x = true) (he : PE X e te) (hs : swapsWith e (some (.Name x pos')) pos.line X.env = pure false := by rfl) (hf : X.fn x = true ∨ X.env.scope.names.lookup x = some .local := by first | exact .inl rfl | exact .inr rfl) :
    PS X (.Assign [.Name x pos'] e pos) (tAsg te (gName i)) := ps_set hN (lv_of h).1 (lv_of h).2 he hs hf
/-- a built-in function, a built-in type, called -/
theorem pcb {X : Cx} {x : Str} {p pos : Pos} {e : Expr} {es : List Expr} {t : TA} {id : String} {r : List V → Hp → VK → Prop} (hc : CallR X (.builtin id) r) (hg : gvB X.env.scope x = true) (hm : X.mg x = none) (hv : bootBuiltins x = some (.builtin id)) (ha : PA X (e :: es) t)
    (he : starEach (e :: es) X.env = (false, eval e X.env) :: starEach es X.env := by rfl) (hpl : (backTo pos (starEach es X.env)).any (·.1) = false := by rfl) : PE X (.Call (.Name x p) (e :: es) [] pos) (tCB r t) :=
  pe_callB hc (gv_of hg).1 hm hv ha (gv_of hg).2.2 (gv_of hg).2.1 he hpl
theorem pct {X : Cx} {x : Str} {p pos : Pos} {e : Expr} {es : List Expr} {t : TA} {T : String} {r : List V → Hp → VK → Prop} (hc : CallR X (.type T) r) (hg : gvB X.env.scope x = true) (hm : X.mg x = none) (hv : bootBuiltins x = some (.type T)) (ha : PA X (e :: es) t)
    (he : starEach (e :: es) X.env = (false, eval e X.env) :: starEach es X.env := by rfl) (hpl : (backTo pos (starEach es X.env)).any (·.1) = false := by rfl) : PE X (.Call (.Name x p) (e :: es) [] pos) (tCB r t) :=
  pe_callTy hc (gv_of hg).1 hm hv ha (gv_of hg).2.2 (gv_of hg).2.1 he hpl
theorem pct0 {X : Cx} {x : Str} {p pos : Pos} {T : String} {r : List V → Hp → VK → Prop} (hc : CallR X (.type T) r) (hg : gvB X.env.scope x = true) (hm : X.mg x = none) (hv : bootBuiltins x = some (.type T)) : PE X (.Call (.Name x p) [] [] pos) (tCB r tNil) :=
  pe_callTy0 hc (gv_of hg).1 hm hv (gv_of hg).2.2 (gv_of hg).2.1
/-- a def of the module, called -/
theorem pcl {Γ : Gm} {X : Cx} {CX : CXT} {k j : Nat} {x : Str} {sp : Sp} {dvs : List V} {E : XK} {p pos : Pos} {e : Expr} {es : List Expr} {t : TA} (c : Cl Γ CX k x sp dvs) (g : Good (Γ.at j) X) (hk : k ≤ j) (hg : gvB X.env.scope x = true) (hx : Passes CX X E) (ha : PA X (e :: es) t)
    (he : starEach (e :: es) X.env = (false, eval e X.env) :: starEach es X.env := by rfl) (hpl : (backTo pos (starEach es X.env)).any (·.1) = false := by rfl) :
    PE X (.Call (.Name x p) (e :: es) [] pos) (tCall sp dvs E t) := pe_cl c g hk (gv_of hg).1 hx ha (gv_of hg).2.1 he hpl
theorem pcl0 {Γ : Gm} {X : Cx} {CX : CXT} {k j : Nat} {x : Str} {sp : Sp} {dvs : List V} {E : XK} {p pos : Pos} (c : Cl Γ CX k x sp dvs) (g : Good (Γ.at j) X) (hk : k ≤ j) (hg : gvB X.env.scope x = true) (hx : Passes CX X E) :
    PE X (.Call (.Name x p) [] [] pos) (tCall sp dvs E tNil) := pe_cl0 c g hk (gv_of hg).1 hx (gv_of hg).2.1
def asB (x : V) (P : Bool → Prop) : Prop := match x with
  | .bl b => P b
  | _ => False
theorem asB_eq (x : V) (P : Bool → Prop) : asB x P = ∃ k, x = .bl k ∧ P k := by
  refine propext ⟨fun h => ?_, fun ⟨k, e, h⟩ => by subst e; exact h⟩
  cases x <;> first | exact ⟨_, rfl, h⟩ | exact h.elim
def asI (x : V) (P : Int → Prop) : Prop := match x with
  | .int i => P i
  | _ => False
theorem asI_eq (x : V) (P : Int → Prop) : asI x P = ∃ k, x = .int k ∧ P k := by
  refine propext ⟨fun h => ?_, fun ⟨k, e, h⟩ => by subst e; exact h⟩
  cases x <;> first | exact ⟨_, rfl, h⟩ | exact h.elim
def br (b : Bool) (A B : Prop) : Prop := match b with
  | true => A
  | false => B
theorem br_eq (b : Bool) (A B : Prop) : (if b = true then A else B) = br b A B := by cases b <;> simp [br]
theorem br_d {p : Prop} [Decidable p] {A B : Prop} (h1 : p → A) (h2 : ¬ p → B) : br (decide p) A B := by
  by_cases h : p
  · rw [decide_eq_true h]; exact h1 h
  · rw [decide_eq_false h]; exact h2 h
theorem br_b {b : Bool} {A B : Prop} (h1 : b = true → A) (h2 : b = false → B) : br b A B := by
  cases b
  · exact h2 rfl
  · exact h1 rfl
/-- truth -/
def tru (K : PySem.W.Frag) (x : V) (H : Hp) (P : Bool → Prop) : Prop := match x with
  | .bl b => P b
  | .non => P false
  | .int i => P (i != 0)
  | .str y => y.length ≤ sizeLine ∧ P ((y.length : Int) != 0)
  | .byt y => y.size ≤ sizeLine ∧ P ((y.size : Int) != 0)
  | .ref p => ∃ k, TruV K (.ref p) H k ∧ P k
  | _ => False
theorem tru_eq (K : PySem.W.Frag) (x : V) (H : Hp) (P : Bool → Prop) : tru K x H P = ∃ k, TruV K x H k ∧ P k := by
  refine propext ⟨fun h => ?_, fun ⟨k, e, h⟩ => ?_⟩
  · cases x <;> first | exact ⟨_, rfl, h⟩ | exact ⟨_, ⟨h.1, rfl⟩, h.2⟩ | exact h | exact h.elim
  · cases x <;> first | (cases e; exact h) | (obtain ⟨e1, e2⟩ := e; subst e2; exact ⟨e1, h⟩) | exact ⟨k, e, h⟩ | exact e.elim
section
variable {Γ : Gm} {X : Cx} {a b c e o : Expr} {es : List Expr} {ta tb tc te : TE} {pos p : Pos} {tt tA tB' : TT} {t u : TS} {x : Str} {tr : TA}

/-! ### operators by values -/
def oAdd (Γ : Gm) : V → V → Hp → VK → Prop
  | .int i, .int j, H, Q => Q (.int (i + j)) H
  | .str a, .str b, H, Q => a.length + b.length ≤ sizeLine ∧ Q (.str (a ++ b)) H
  | x, y, H, Q => WO Γ (binaryOp .Add) x y H Q
def oSub (Γ : Gm) : V → V → Hp → VK → Prop
  | .int i, .int j, H, Q => Q (.int (i - j)) H
  | x, y, H, Q => WO Γ (binaryOp .Sub) x y H Q
def oMul (Γ : Gm) : V → V → Hp → VK → Prop
  | .int i, .int j, H, Q => CMul i j ∧ Q (.int (i * j)) H
  | x, y, H, Q => WO Γ (binaryOp .Mult) x y H Q
def oDiv (Γ : Gm) : V → V → Hp → VK → Prop
  | .int i, .int j, H, Q => (0 < j ∧ j < 1073741824) ∧ Q (.int (i / j)) H
  | x, y, H, Q => WO Γ (binaryOp .FloorDiv) x y H Q
def oMod (Γ : Gm) : V → V → Hp → VK → Prop
  | .int i, .int j, H, Q => 0 < j ∧ Q (.int (i % j)) H
  | x, y, H, Q => WO Γ (binaryOp .Mod) x y H Q
def oPow (Γ : Gm) : V → V → Hp → VK → Prop
  | .int i, .int j, H, Q => CPow i j ∧ Q (.int (i ^ j.toNat)) H
  | x, y, H, Q => WO Γ (binaryOp .Pow) x y H Q
def oLt (Γ : Gm) : V → V → Hp → VK → Prop
  | .int i, .int j, H, Q => Q (.bl (decide (i < j))) H
  | x, y, H, Q => WO Γ (compareOp .Lt) x y H Q
def oLe (Γ : Gm) : V → V → Hp → VK → Prop
  | .int i, .int j, H, Q => Q (.bl (decide (i ≤ j))) H
  | x, y, H, Q => WO Γ (compareOp .LtE) x y H Q
def oGt (Γ : Gm) : V → V → Hp → VK → Prop
  | .int i, .int j, H, Q => Q (.bl (decide (j < i))) H
  | x, y, H, Q => WO Γ (compareOp .Gt) x y H Q
def oGe (Γ : Gm) : V → V → Hp → VK → Prop
  | .int i, .int j, H, Q => Q (.bl (decide (j ≤ i))) H
  | x, y, H, Q => WO Γ (compareOp .GtE) x y H Q
def oEq (Γ : Gm) : V → V → Hp → VK → Prop
  | .int i, .int j, H, Q => Q (.bl (decide (i = j))) H
  | .str i, .str j, H, Q => Q (.bl (decide (i = j))) H
  | .bl i, .bl j, H, Q => Q (.bl (decide (i = j))) H
  | .non, .non, H, Q => Q (.bl true) H
  | .non, .int _, H, Q => Q (.bl false) H
  | .int _, .non, H, Q => Q (.bl false) H
  | .non, .bl _, H, Q => Q (.bl false) H
  | .bl _, .non, H, Q => Q (.bl false) H
  | .non, .str _, H, Q => Q (.bl false) H
  | .str _, .non, H, Q => Q (.bl false) H
  | x, y, H, Q => WO Γ (compareOp .Eq) x y H Q
def oNe (Γ : Gm) : V → V → Hp → VK → Prop
  | .int i, .int j, H, Q => Q (.bl (!decide (i = j))) H
  | .str i, .str j, H, Q => Q (.bl (!decide (i = j))) H
  | .bl i, .bl j, H, Q => Q (.bl (!decide (i = j))) H
  | .non, .non, H, Q => Q (.bl false) H
  | .non, .int _, H, Q => Q (.bl true) H
  | .int _, .non, H, Q => Q (.bl true) H
  | .non, .bl _, H, Q => Q (.bl true) H
  | .bl _, .non, H, Q => Q (.bl true) H
  | .non, .str _, H, Q => Q (.bl true) H
  | .str _, .non, H, Q => Q (.bl true) H
  | x, y, H, Q => WO Γ (compareOp .NotEq) x y H Q
def isN (x : V) : Bool := match x with
  | .non => true
  | _ => false
theorem isN_eq (x : V) : decide (x = .non) = isN x := by cases x <;> rfl
def oIs (Γ : Gm) : V → V → Hp → VK → Prop
  | x, .non, H, Q => Q (.bl (isN x)) H
  | x, y, H, Q => WO Γ (compareOp .Is) x y H Q
def oIsNot (Γ : Gm) : V → V → Hp → VK → Prop
  | x, .non, H, Q => Q (.bl (!isN x)) H
  | x, y, H, Q => WO Γ (compareOp .IsNot) x y H Q
abbrev oIn (Γ : Gm) : R2 := WO Γ (compareOp .In)
abbrev oNotIn (Γ : Gm) : R2 := WO Γ (compareOp .NotIn)
abbrev oShr (Γ : Gm) : R2 := WO Γ (binaryOp .RShift)
abbrev oOr (Γ : Gm) : R2 := WO Γ (binaryOp .BitOr)
abbrev oAnd (Γ : Gm) : R2 := WO Γ (binaryOp .BitAnd)
abbrev oXor (Γ : Gm) : R2 := WO Γ (binaryOp .BitXor)
/-- from a reading by values to the weakest -/
theorem opr_of {f : Value → Value → Sem Value} {r : R2} (g : Good Γ X) (h : ∀ x y H Q, r x y H Q → WO Γ f x y H Q) : OpR X f r := fun pins s σ H x y v u Q I rx ry q => WO.ok g pins s σ H x y v u Q I rx ry (h x y H Q q)
theorem k_add (g : Good Γ X) : OpR X (binaryOp .Add) (oAdd Γ) := opr_of g fun x y H Q h => by
  cases x <;> cases y <;> first | exact h | exact wo_add h | exact ⟨_, fun _ _ => op_add_str, _, _, rfl, rfl, h.1, h.2⟩
theorem k_sub (g : Good Γ X) : OpR X (binaryOp .Sub) (oSub Γ) := opr_of g fun x y H Q h => by
  cases x <;> cases y <;> first | exact h | exact wo_sub h
theorem k_mul (g : Good Γ X) : OpR X (binaryOp .Mult) (oMul Γ) := opr_of g fun x y H Q h => by
  cases x <;> cases y <;> first | exact h | exact ⟨_, fun _ _ => op_mul, _, _, rfl, rfl, h.1, h.2⟩
theorem k_div (g : Good Γ X) : OpR X (binaryOp .FloorDiv) (oDiv Γ) := opr_of g fun x y H Q h => by
  cases x <;> cases y <;> first | exact h | exact ⟨_, fun _ _ => op_fdiv, _, _, rfl, rfl, h.1, h.2⟩
theorem k_mod (g : Good Γ X) : OpR X (binaryOp .Mod) (oMod Γ) := opr_of g fun x y H Q h => by
  cases x <;> cases y <;> first | exact h | exact wo_mod h.1 h.2
theorem k_pow (g : Good Γ X) : OpR X (binaryOp .Pow) (oPow Γ) := opr_of g fun x y H Q h => by
  cases x <;> cases y <;> first | exact h | exact ⟨_, fun _ _ => op_pow, _, _, rfl, rfl, h.1, h.2⟩
theorem k_lt (g : Good Γ X) : OpR X (compareOp .Lt) (oLt Γ) := opr_of g fun x y H Q h => by
  cases x <;> cases y <;> first | exact h | exact wo_lt h
theorem k_le (g : Good Γ X) : OpR X (compareOp .LtE) (oLe Γ) := opr_of g fun x y H Q h => by
  cases x <;> cases y <;> first | exact h | exact wo_le h
theorem k_gt (g : Good Γ X) : OpR X (compareOp .Gt) (oGt Γ) := opr_of g fun x y H Q h => by
  cases x <;> cases y <;> first | exact h | exact wo_gt h
theorem k_ge (g : Good Γ X) : OpR X (compareOp .GtE) (oGe Γ) := opr_of g fun x y H Q h => by
  cases x <;> cases y <;> first | exact h | exact wo_ge h
theorem k_eq (g : Good Γ X) : OpR X (compareOp .Eq) (oEq Γ) := opr_of g fun x y H Q h => by
  cases x <;> cases y <;> first | exact h | exact wo_eqI h | exact wo_eqS h | exact ⟨_, fun _ _ => op_eq, rfl, h⟩ | exact ⟨_, fun _ _ => op_eq, rfl, by
    rename_i i j
    have e : decide (V.bl i = V.bl j) = decide (i = j) := decide_eq_decide.mpr ⟨fun z => V.bl.inj z, fun z => by rw [z]⟩
    rw [e]; exact h⟩
theorem k_ne (g : Good Γ X) : OpR X (compareOp .NotEq) (oNe Γ) := opr_of g fun x y H Q h => by
  cases x <;> cases y <;> first | exact h | exact wo_neI h | exact wo_neS h | exact ⟨_, fun _ _ => op_ne, rfl, h⟩ | exact ⟨_, fun _ _ => op_ne, rfl, by
    rename_i i j
    have e : decide (V.bl i = V.bl j) = decide (i = j) := decide_eq_decide.mpr ⟨fun z => V.bl.inj z, fun z => by rw [z]⟩
    rw [e]; exact h⟩
theorem k_is (g : Good Γ X) : OpR X (compareOp .Is) (oIs Γ) := opr_of g fun x y H Q h => by
  cases y <;> first | exact h | exact wo_isN (by rw [isN_eq]; exact h)
theorem k_isnot (g : Good Γ X) : OpR X (compareOp .IsNot) (oIsNot Γ) := opr_of g fun x y H Q h => by
  cases y <;> first | exact h | exact wo_notN (by rw [isN_eq]; exact h)
def uNeg (Γ : Gm) : V → Hp → VK → Prop
  | .int i, H, Q => Q (.int (-i)) H
  | x, H, Q => WU Γ (unaryOp .USub) x H Q
theorem k_neg (g : Good Γ X) : UnR X (unaryOp .USub) (uNeg Γ) := fun pins s σ H x v Q I rx q => WU.ok g pins s σ H x v Q I rx (by cases x <;> first | exact q | exact wu_neg q)

/-! ### calls of built-ins by values -/
def cInt (Γ : Gm) : List V → Hp → VK → Prop
  | [.int i], H, Q => Q (.int i) H
  | [.bl b], H, Q => Q (.int (if b then 1 else 0)) H
  | xs, H, Q => WC Γ (.type "int") xs H Q
def cAbs (Γ : Gm) : List V → Hp → VK → Prop
  | [.int i], H, Q => Q (.int (if i < 0 then -i else i)) H
  | xs, H, Q => WC Γ (.builtin "abs") xs H Q
def cMin (Γ : Gm) : List V → Hp → VK → Prop
  | [.int i, .int j], H, Q => Q (.int (if j < i then j else i)) H
  | xs, H, Q => WC Γ (.builtin "min") xs H Q
def cMax (Γ : Gm) : List V → Hp → VK → Prop
  | [.int i, .int j], H, Q => Q (.int (if j > i then j else i)) H
  | xs, H, Q => WC Γ (.builtin "max") xs H Q
def cLen (Γ : Gm) : List V → Hp → VK → Prop
  | [.str z], H, Q => z.length ≤ sizeLine ∧ Q (.int z.length) H
  | xs, H, Q => WC Γ (.builtin "len") xs H Q
theorem callr_of {f : Value} {r : List V → Hp → VK → Prop} (g : Good Γ X) (h : ∀ xs H Q, r xs H Q → WC Γ f xs H Q) : CallR X f r := fun pins s σ H xs us Q I rx q => WC.ok g pins s σ H xs us Q I rx (h xs H Q q)
theorem k_int (g : Good Γ X) : CallR X (.type "int") (cInt Γ) := callr_of g fun xs H Q h => by
  rcases xs with _ | ⟨x, _ | ⟨y, r⟩⟩
  · exact h
  · cases x <;> first | exact h | exact wc_int h | exact wc_intB h
  · cases x <;> exact h
theorem k_abs (g : Good Γ X) : CallR X (.builtin "abs") (cAbs Γ) := callr_of g fun xs H Q h => by
  rcases xs with _ | ⟨x, _ | ⟨y, r⟩⟩
  · exact h
  · cases x <;> first | exact h | exact wc_abs h
  · cases x <;> exact h
theorem clenS (g : Good Γ X) : CallR X (.builtin "len") (fun xs H Q => ∃ x n, xs = [x] ∧ LenV Γ.K x H n ∧ Q (.int n) H) := by rw [← g.K]; exact call_len
theorem k_len (g : Good Γ X) : CallR X (.builtin "len") (cLen Γ) := callr_of g fun xs H Q h => by
  rcases xs with _ | ⟨x, _ | ⟨y, r⟩⟩
  · exact h
  · cases x <;> first | exact h | exact ⟨_, fun _ g => clenS g, _, _, rfl, ⟨h.1, rfl⟩, h.2⟩
  · cases x <;> exact h
theorem k_min (g : Good Γ X) : CallR X (.builtin "min") (cMin Γ) := callr_of g fun xs H Q h => by
  rcases xs with _ | ⟨x, _ | ⟨y, _ | ⟨z, r⟩⟩⟩
  · exact h
  · cases x <;> exact h
  · cases x <;> cases y <;> first | exact h | exact wc_min2 h
  · cases x <;> cases y <;> exact h
theorem k_max (g : Good Γ X) : CallR X (.builtin "max") (cMax Γ) := callr_of g fun xs H Q h => by
  rcases xs with _ | ⟨x, _ | ⟨y, _ | ⟨z, r⟩⟩⟩
  · exact h
  · cases x <;> exact h
  · cases x <;> cases y <;> first | exact h | exact wc_max2 h
  · cases x <;> cases y <;> exact h

/-! ### tests, branches -/
def tT (t : TE) : TT := fun σ H Q => t σ H fun x H' => asB x fun k => Q k H'
theorem tT_eq (t : TE) : tT t = tTest t := by
  funext σ H Q
  show t σ H (fun x H' => asB x fun k => Q k H') = t σ H fun x H' => ∃ k, x = .bl k ∧ Q k H'
  congr 1
  funext x H'
  exact asB_eq x _
theorem pt_cm {op : CmpOp} {r : R2} (ho : OpR X (compareOp op) r) (ha : PE X a ta) (hb : PE X b tb) (hm : behindInMarks op b = false) : PT X (.Compare a [op] [b] pos) (tT (tOp r ta tb)) := by
  rw [tT_eq]; exact pt_cmpR ho ha hb hm
def tCh (r r' : R2) (ta tb tc : TE) : TE := fun σ H Q => ta σ H fun x H1 => tb σ H1 fun y H2 => r x y H2 fun z H3 => asB z fun k => br k (tc σ H3 fun w' H4 => r' y w' H4 Q) (Q (.bl false) H3)
theorem tCh_eq (r r' : R2) (ta tb tc : TE) : tCh r r' ta tb tc = tChain r r' ta tb tc := by
  funext σ H Q
  unfold tCh tChain
  congr 1; funext x H1
  congr 1; funext y H2
  congr 1; funext z H3
  rw [asB_eq]
  congr 1; funext k
  rw [br_eq]
theorem pe_ch {op op' : CmpOp} {r r' : R2} (ho : OpR X (compareOp op) r) (ho' : OpR X (compareOp op') r') (ha : PE X a ta) (hb : PE X b tb) (hc : PE X c tc)
    (hm : lastMarks [op, op'] [b, c] = false := by with_unfolding_all rfl) : PE X (.Compare a [op, op'] [b, c] pos) (tCh r r' ta tb tc) := by
  rw [tCh_eq]; exact pe_chain ho ho' ha hb hc hm
theorem pt_ch {op op' : CmpOp} {r r' : R2} (ho : OpR X (compareOp op) r) (ho' : OpR X (compareOp op') r') (ha : PE X a ta) (hb : PE X b tb) (hc : PE X c tc)
    (hm : lastMarks [op, op'] [b, c] = false := by with_unfolding_all rfl) : PT X (.Compare a [op, op'] [b, c] pos) (tT (tCh r r' ta tb tc)) := by
  rw [tT_eq, tCh_eq]; exact pt_chain ho ho' ha hb hc hm
def tIfB (t : TT) (ta tb : TE) : TE := fun σ H Q => t σ H fun c H1 => br c (ta σ H1 Q) (tb σ H1 Q)
theorem tIfB_eq (t : TT) (ta tb : TE) : tIfB t ta tb = tIf t ta tb := by
  funext σ H Q
  unfold tIfB tIf
  congr 1; funext c H1
  exact (br_eq _ _ _).symm
theorem pe_ifB (hc : PT X c tA) (ha : PE X a ta) (hb : PE X b tb) : PE X (.IfExp c a b pos) (tIfB tA ta tb) := by rw [tIfB_eq]; exact pe_ifExp hc ha hb
def tIfSB (c : TT) (t u : TS) : TS := fun D σ H => c σ H fun b H1 => br b (t D σ H1) (u D σ H1)
theorem tIfSB_eq (c : TT) (t u : TS) : tIfSB c t u = tIfS c t u := by
  funext D σ H
  unfold tIfSB tIfS
  congr 1; funext c H1
  exact (br_eq _ _ _).symm
theorem ps_ifB {a b : List Stmt} (hc : PT X c tt) (ha : PSs X a t) (hb : PSs X b u) : PS X (.If c a b pos) (tIfSB tt t u) := by rw [tIfSB_eq]; exact ps_if hc ha hb
def tAndB (t u : TT) : TT := fun σ H Q => t σ H fun c H1 => br c (u σ H1 Q) (Q false H1)
def tOrB (t u : TT) : TT := fun σ H Q => t σ H fun c H1 => br c (Q true H1) (u σ H1 Q)
theorem tAndB_eq (t u : TT) : tAndB t u = tAnd t u := by
  funext σ H Q
  unfold tAndB tAnd
  congr 1; funext c H1
  exact (br_eq _ _ _).symm
theorem tOrB_eq (t u : TT) : tOrB t u = tOr t u := by
  funext σ H Q
  unfold tOrB tOr
  congr 1; funext c H1
  exact (br_eq _ _ _).symm
theorem pw_andB {rest : List Expr} (ha : PT X a tA) (hb : PW X (.BoolOp .And (b :: rest) pos) tB') : PW X (.BoolOp .And (a :: b :: rest) pos) (tAndB tA tB') := by rw [tAndB_eq]; exact pw_and ha hb
theorem pw_orB {rest : List Expr} (ha : PT X a tA) (hb : PW X (.BoolOp .Or (b :: rest) pos) tB') : PW X (.BoolOp .Or (a :: b :: rest) pos) (tOrB tA tB') := by rw [tOrB_eq]; exact pw_or ha hb
/-- truth of any value as a test -/
def tTr (Γ : Gm) (ta : TE) : TT := fun σ H Q => ta σ H fun x H' => tru Γ.K x H' fun k => Q k H'
theorem tTr_eq (g : Good Γ X) (ta : TE) : tTr Γ ta = fun σ H Q => ta σ H fun x H' => ∃ k, TruV X.K x H' k ∧ Q k H' := by
  rw [g.K]
  funext σ H Q
  unfold tTr
  congr 1; funext x H'
  exact tru_eq _ _ _ _
theorem pt_tr (g : Good Γ X) (ha : PE X a ta) (he : ∀ whole, isTrue a X.env whole = (do let v ← whole; standAt a.pos; holding [v] (truthy v)) := by intro _; rfl) : PT X a (tTr Γ ta) := by
  rw [tTr_eq g]; exact pt_truth ha he
def tOrB2 (Γ : Gm) (ta tb : TE) : TE := fun σ H Q => ta σ H fun x H1 => tru Γ.K x H1 fun k => br k (Q x H1) (tb σ H1 Q)
def tAndB2 (Γ : Gm) (ta tb : TE) : TE := fun σ H Q => ta σ H fun x H1 => tru Γ.K x H1 fun k => br k (tb σ H1 Q) (Q x H1)
def tNotB (Γ : Gm) (ta : TE) : TE := fun σ H Q => ta σ H fun x H1 => tru Γ.K x H1 fun k => Q (.bl (!k)) H1
theorem pe_or2 {rest : List Expr} (g : Good Γ X) (ha : PE X a ta) (hb : PE X (.BoolOp .Or (b :: rest) pos) tb) : PE X (.BoolOp .Or (a :: b :: rest) pos) (tOrB2 Γ ta tb) := by
  have e : tOrB2 Γ ta tb = tOrT X.K ta tb := by
    rw [g.K]
    funext σ H Q
    unfold tOrB2 tOrT
    congr 1; funext x H'
    rw [tru_eq]
    congr 1; funext k
    rw [br_eq]
  rw [e]; exact pe_orT ha hb
theorem pe_and2 {rest : List Expr} (g : Good Γ X) (ha : PE X a ta) (hb : PE X (.BoolOp .And (b :: rest) pos) tb) : PE X (.BoolOp .And (a :: b :: rest) pos) (tAndB2 Γ ta tb) := by
  have e : tAndB2 Γ ta tb = tAndT X.K ta tb := by
    rw [g.K]
    funext σ H Q
    unfold tAndB2 tAndT
    congr 1; funext x H'
    rw [tru_eq]
    congr 1; funext k
    rw [br_eq]
  rw [e]; exact pe_andT ha hb
theorem pe_not2 (g : Good Γ X) (ha : PE X a ta) : PE X (.UnaryOp .Not a pos) (tNotB Γ ta) := by
  have e : tNotB Γ ta = tNotT X.K ta := by
    rw [g.K]
    funext σ H Q
    unfold tNotB tNotT
    congr 1; funext x H'
    exact tru_eq _ _ _ _
  rw [e]; exact pe_notT ha

/-! ### several targets, slices' parts, methods of built-in types -/
def two (vs : List V) (P : V → V → Prop) : Prop := match vs with
  | [v, w] => P v w
  | _ => False
def three (vs : List V) (P : V → V → V → Prop) : Prop := match vs with
  | [v, w, z] => P v w z
  | _ => False
theorem two_eq (vs : List V) (P : V → V → Prop) : two vs P = ∃ v w, vs = [v, w] ∧ P v w := by
  refine propext ⟨fun h => ?_, fun ⟨v, w, e, h⟩ => by subst e; exact h⟩
  rcases vs with _ | ⟨v, _ | ⟨w, _ | ⟨z, r⟩⟩⟩ <;> first | exact ⟨_, _, rfl, h⟩ | exact h.elim
theorem three_eq (vs : List V) (P : V → V → V → Prop) : three vs P = ∃ v w z, vs = [v, w, z] ∧ P v w z := by
  refine propext ⟨fun h => ?_, fun ⟨v, w, z, e, h⟩ => by subst e; exact h⟩
  rcases vs with _ | ⟨v, _ | ⟨w, _ | ⟨z, _ | ⟨y, r⟩⟩⟩⟩ <;> first | exact ⟨_, _, _, rfl, h⟩ | exact h.elim
def tP2 (i j : Nat) (ta : TA) : TS := fun D σ H => ta σ H fun vs H1 => two vs fun v w => D.nx ((σ.set i (some v)).set j (some w)) H1
def tP3 (i j l : Nat) (ta : TA) : TS := fun D σ H => ta σ H fun vs H1 => three vs fun u v w => D.nx (((σ.set i (some u)).set j (some v)).set l (some w)) H1
theorem tP2_eq (i j : Nat) (ta : TA) : tP2 i j ta = tPar i j ta := by
  funext D σ H
  unfold tP2 tPar
  congr 1; funext vs H1
  exact two_eq _ _
theorem tP3_eq (i j l : Nat) (ta : TA) : tP3 i j l ta = tPar3 i j l ta := by
  funext D σ H
  unfold tP3 tPar3
  congr 1; funext vs H1
  exact three_eq _ _
theorem ps_p2 {i j : Nat} {x y : Str} {a b : Expr} {ta : TA} {px py pt : Pos} {kt k2 pt2} (hc : X.calm = true) (hN : X.N.Nodup) (hi : X.N[i]? = some x) (hj : X.N[j]? = some y) (hij : i ≠ j)
    (hx : X.env.scope.names.lookup x = some .local) (hy : X.env.scope.names.lookup y = some .local) (ha : PA X [a, b] ta)
    (hw : swappedStores [.Tuple [.Name x px, .Name y py] kt pt] (.Tuple [a, b] k2 pt2) X.env = pure (some [x, y]))
    (hs : swapsWithSole [.Tuple [.Name x px, .Name y py] kt pt] (.Tuple [a, b] k2 pt2) pos.line X.env = pure false := by rfl) :
    PS X (.Assign [.Tuple [.Name x px, .Name y py] kt pt] (.Tuple [a, b] k2 pt2) pos) (tP2 i j ta) := by rw [tP2_eq]; exact ps_par hc hN hi hj hij hx hy ha hw hs
theorem ps_p3 {i j l : Nat} {x y z : Str} {a b c : Expr} {ta : TA} {px py pz pt pos : Pos} {kt k2 pt2} (hc : X.calm = true) (hN : X.N.Nodup) (hi : X.N[i]? = some x) (hj : X.N[j]? = some y) (hl : X.N[l]? = some z) (hij : i ≠ j) (hil : i ≠ l) (hjl : j ≠ l)
    (hx : X.env.scope.names.lookup x = some .local) (hy : X.env.scope.names.lookup y = some .local) (hz : X.env.scope.names.lookup z = some .local) (ha : PA X [a, b, c] ta)
    (hw : swappedStores [.Tuple [.Name x px, .Name y py, .Name z pz] kt pt] (.Tuple [a, b, c] k2 pt2) X.env = pure (some [x, y, z]))
    (hs : swapsWithSole [.Tuple [.Name x px, .Name y py, .Name z pz] kt pt] (.Tuple [a, b, c] k2 pt2) pos.line X.env = pure false := by rfl) :
    PS X (.Assign [.Tuple [.Name x px, .Name y py, .Name z pz] kt pt] (.Tuple [a, b, c] k2 pt2) pos) (tP3 i j l ta) := by rw [tP3_eq]; exact ps_par3 hc hN hi hj hl hij hil hjl hx hy hz ha hw hs
def tPt (t : TE) : TO := fun σ H Q => t σ H fun x H1 => asI x fun i => Q (some i) H1
theorem tPt_eq (t : TE) : tPt t = tPart t := by
  funext σ H Q
  unfold tPt tPart
  congr 1; funext x H1
  exact asI_eq _ _
theorem po_pt (h : PE X e te) : PO X (some e) (tPt te) := by rw [tPt_eq]; exact po_some h
theorem pe_bmK {name : Str} {apos cpos : Pos} {T id : String} {r : V → List V → Hp → VK → Prop} {to : TE} {t : TA} (g : Good Γ X) (pa : PlainAttrs T) (slot : Slot T name id) (hty : typeOf (.builtin id) = pure (.type "method_descriptor")) (hm : MtR X id r) (ho : PE X o to) (ha : PA X (e :: es) t)
    (hbase : attributeBase o name X.env (eval o X.env) = eval o X.env := by rfl)
    (hfew : ((backTo cpos (starEach (e :: es) X.env)).all (fun x => !x.1) && (backToKw cpos (keywordEach [] X.env)).all (fun x => x.1.isSome)
      && decide ((e :: es).length + ([] : List Keyword).length + (if ([] : List Keyword).isEmpty then 0 else 1) < 30)) = true := by rfl)
    (hline : (apos.endLine == cpos.line) = true := by rfl) (hs : starEach (e :: es) X.env = (false, eval e X.env) :: starEach es X.env := by rfl) (hplain : (backTo cpos (starEach es X.env)).any (·.1) = false := by rfl) :
    PE X (.Call (.Attribute o name apos) (e :: es) [] cpos) (tBM Γ.K T r to t) := by rw [← g.K]; exact pe_bm pa slot hty hm ho ha hbase hfew hline hs hplain
theorem pe_bmK0 {name : Str} {apos cpos : Pos} {T id : String} {r : V → List V → Hp → VK → Prop} {to : TE} (g : Good Γ X) (pa : PlainAttrs T) (slot : Slot T name id) (hty : typeOf (.builtin id) = pure (.type "method_descriptor")) (hm : MtR X id r) (ho : PE X o to)
    (hbase : attributeBase o name X.env (eval o X.env) = eval o X.env := by rfl) (hline : (apos.endLine == cpos.line) = true := by rfl) : PE X (.Call (.Attribute o name apos) [] [] cpos) (tBM0 Γ.K T r to) := by
  rw [← g.K]; exact pe_bm0 pa slot hty hm ho hbase hline
def rJ (K : PySem.W.Frag) : V → List V → Hp → VK → Prop := fun x xs H Q => ∃ a p, ∃ ys : List Str, x = .str a ∧ xs = [.ref p] ∧ (SqL K H p (ys.map V.str) ∨ SqT K H p (ys.map V.str)) ∧ (ys.map (·.length)).sum + ys.length * a.length ≤ 16777216 ∧ Q (.str (Txt.join a ys)) H
theorem pe_jn {apos pos : Pos} {to : TE} (g : Good Γ X) (ho : PE X o to) (he : PE X e te) (hs : starEach [e] X.env = [(false, eval e X.env)] := by rfl) (hbase : attributeBase o "join" X.env (eval o X.env) = eval o X.env := by rfl) (hline : (apos.endLine == pos.line) = true := by rfl) :
    PE X (.Call (.Attribute o "join" apos) [e] [] pos) (tM1 (rJ Γ.K) to te) := by rw [← g.K]; exact pe_join ho he hs hbase hline
end

/-! ### what is walked, by the written part's own name -/
section
variable {Γ : Gm} {X : Cx} {tg e : Expr} {te : TE} {ta : TA}
theorem pi_l (g : Good Γ X) (h : PE X e te) : PI X tg e (iList Γ.K te) := by rw [← g.K]; exact pi_list h
theorem pi_t (g : Good Γ X) (h : PE X e te) : PI X tg e (iTup Γ.K te) := by rw [← g.K]; exact pi_tup h
theorem pi_en {p pos tpos : Pos} {elts : List Expr} {kk : Nat} (g : Good Γ X) (hg : gvB X.env.scope "enumerate" = true) (hm : X.mg "enumerate" = none) (ha : PA X [e] ta) (hs : starEach [e] X.env = [(false, eval e X.env)] := by rfl) :
    PI X (.Tuple elts kk tpos) (.Call (.Name "enumerate" p) [e] [] pos) (iEnum Γ.K ta) := by rw [← g.K]; exact pi_enum (gv_of hg).1 hm ha hs
theorem pi_r1 {a : Expr} {p pos : Pos} (hg : gvB X.env.scope "range" = true) (hm : X.mg "range" = none) (ha : PA X [a] ta) (hs : starEach [a] X.env = [(false, eval a X.env)] := by rfl) : PI X tg (.Call (.Name "range" p) [a] [] pos) (iRng1 ta) := pi_range1 (gv_of hg).1 hm ha hs
theorem pi_r2 {a b : Expr} {p pos : Pos} (hg : gvB X.env.scope "range" = true) (hm : X.mg "range" = none) (ha : PA X [a, b] ta) (hs : starEach [a, b] X.env = [(false, eval a X.env), (false, eval b X.env)] := by rfl) (hs2 : starEach [b] X.env = [(false, eval b X.env)] := by rfl) :
    PI X tg (.Call (.Name "range" p) [a, b] [] pos) (iRng2 ta) := pi_range2 (gv_of hg).1 hm ha hs hs2
theorem pg_tK {es : List Expr} {k : Nat} {t : TGs} (g : Good Γ X) (n : Nat) (hc : X.calm = true) (h : PGs X es t) (hn : (assignEach es X.env).length = n := by rfl) (hst : (assignEach es X.env).findIdx? (·.1) = none := by rfl) {pos : Pos} : PG X (.Tuple es k pos) (gTup Γ.K n t) := by
  rw [← g.K]; exact pg_tup hc h hn hst
end

/-! ### several targets, by computation -/
def gN : TGs := fun vs σ H Q => match vs with
  | [] => Q σ H
  | _ => False
def gC (t : TG) (u : TGs) : TGs := fun vs σ H Q => match vs with
  | v :: r => t v σ H fun σ' H' => u r σ' H' Q
  | [] => False
theorem gN_eq : gN = gNil := by
  funext vs σ H Q
  refine propext ⟨fun h => ?_, fun ⟨e, h⟩ => by subst e; exact h⟩
  cases vs
  · exact ⟨rfl, h⟩
  · exact h.elim
theorem gC_eq (t : TG) (u : TGs) : gC t u = gCons t u := by
  funext vs σ H Q
  refine propext ⟨fun h => ?_, fun ⟨v, r, e, h⟩ => by subst e; exact h⟩
  cases vs
  · exact h.elim
  · exact ⟨_, _, rfl, h⟩
theorem pgs_0 {X : Cx} : PGs X [] gN := by rw [gN_eq]; exact pgs_nil
theorem pgs_c {X : Cx} {e : Expr} {es : List Expr} {t : TG} {u : TGs} (h1 : PG X e t) (h2 : PGs X es u)
    (hs : (assignEach (e :: es) X.env).map (·.2) = assign e X.env :: (assignEach es X.env).map (·.2) := by rfl) : PGs X (e :: es) (gC t u) := by rw [gC_eq]; exact pgs_cons h1 h2 hs
theorem gt_of {K : PySem.W.Frag} {n : Nat} {t : TGs} {T : Addr} {xs : List V} {σ : L2.St} {H : Hp} {Q : L2.St → Hp → Prop} (m : SqT K H T xs) (hn : xs.length = n) (h : t xs σ H Q) : gTup K n t (.ref T) σ H Q := ⟨T, xs, rfl, m, hn, h⟩

/-! ### what reduces -/
theorem gN_1 {σ : L2.St} {H : Hp} {Q : L2.St → Hp → Prop} : gN [] σ H Q = Q σ H := rfl
theorem gC_1 {t : TG} {u : TGs} {v : V} {r : List V} {σ : L2.St} {H : Hp} {Q : L2.St → Hp → Prop} : gC t u (v :: r) σ H Q = t v σ H fun σ' H' => u r σ' H' Q := rfl
theorem oAdd_1 {Γ : Gm} {H : Hp} {Q : VK} {i : Int} {j : Int} : oAdd Γ (.int i) (.int j) H Q = (Q (.int (i + j)) H) := rfl
theorem oAdd_2 {Γ : Gm} {H : Hp} {Q : VK} {a : Str} {b : Str} : oAdd Γ (.str a) (.str b) H Q = (a.length + b.length ≤ sizeLine ∧ Q (.str (a ++ b)) H) := rfl
theorem oSub_1 {Γ : Gm} {H : Hp} {Q : VK} {i : Int} {j : Int} : oSub Γ (.int i) (.int j) H Q = (Q (.int (i - j)) H) := rfl
theorem oMul_1 {Γ : Gm} {H : Hp} {Q : VK} {i : Int} {j : Int} : oMul Γ (.int i) (.int j) H Q = (CMul i j ∧ Q (.int (i * j)) H) := rfl
theorem oDiv_1 {Γ : Gm} {H : Hp} {Q : VK} {i : Int} {j : Int} : oDiv Γ (.int i) (.int j) H Q = ((0 < j ∧ j < 1073741824) ∧ Q (.int (i / j)) H) := rfl
theorem oMod_1 {Γ : Gm} {H : Hp} {Q : VK} {i : Int} {j : Int} : oMod Γ (.int i) (.int j) H Q = (0 < j ∧ Q (.int (i % j)) H) := rfl
theorem oPow_1 {Γ : Gm} {H : Hp} {Q : VK} {i : Int} {j : Int} : oPow Γ (.int i) (.int j) H Q = (CPow i j ∧ Q (.int (i ^ j.toNat)) H) := rfl
theorem oLt_1 {Γ : Gm} {H : Hp} {Q : VK} {i : Int} {j : Int} : oLt Γ (.int i) (.int j) H Q = (Q (.bl (decide (i < j))) H) := rfl
theorem oLe_1 {Γ : Gm} {H : Hp} {Q : VK} {i : Int} {j : Int} : oLe Γ (.int i) (.int j) H Q = (Q (.bl (decide (i ≤ j))) H) := rfl
theorem oGt_1 {Γ : Gm} {H : Hp} {Q : VK} {i : Int} {j : Int} : oGt Γ (.int i) (.int j) H Q = (Q (.bl (decide (j < i))) H) := rfl
theorem oGe_1 {Γ : Gm} {H : Hp} {Q : VK} {i : Int} {j : Int} : oGe Γ (.int i) (.int j) H Q = (Q (.bl (decide (j ≤ i))) H) := rfl
theorem oEq_1 {Γ : Gm} {H : Hp} {Q : VK} {i : Int} {j : Int} : oEq Γ (.int i) (.int j) H Q = (Q (.bl (decide (i = j))) H) := rfl
theorem oEq_2 {Γ : Gm} {H : Hp} {Q : VK} {i : Str} {j : Str} : oEq Γ (.str i) (.str j) H Q = (Q (.bl (decide (i = j))) H) := rfl
theorem oEq_3 {Γ : Gm} {H : Hp} {Q : VK} {i : Bool} {j : Bool} : oEq Γ (.bl i) (.bl j) H Q = (Q (.bl (decide (i = j))) H) := rfl
theorem oEq_4 {Γ : Gm} {H : Hp} {Q : VK} : oEq Γ .non .non H Q = (Q (.bl true) H) := rfl
theorem oEq_5 {Γ : Gm} {H : Hp} {Q : VK} {z1 : Int} : oEq Γ .non (.int z1) H Q = (Q (.bl false) H) := rfl
theorem oEq_6 {Γ : Gm} {H : Hp} {Q : VK} {z1 : Int} : oEq Γ (.int z1) .non H Q = (Q (.bl false) H) := rfl
theorem oEq_7 {Γ : Gm} {H : Hp} {Q : VK} {z1 : Bool} : oEq Γ .non (.bl z1) H Q = (Q (.bl false) H) := rfl
theorem oEq_8 {Γ : Gm} {H : Hp} {Q : VK} {z1 : Bool} : oEq Γ (.bl z1) .non H Q = (Q (.bl false) H) := rfl
theorem oEq_9 {Γ : Gm} {H : Hp} {Q : VK} {z1 : Str} : oEq Γ .non (.str z1) H Q = (Q (.bl false) H) := rfl
theorem oEq_10 {Γ : Gm} {H : Hp} {Q : VK} {z1 : Str} : oEq Γ (.str z1) .non H Q = (Q (.bl false) H) := rfl
theorem oNe_1 {Γ : Gm} {H : Hp} {Q : VK} {i : Int} {j : Int} : oNe Γ (.int i) (.int j) H Q = (Q (.bl (!decide (i = j))) H) := rfl
theorem oNe_2 {Γ : Gm} {H : Hp} {Q : VK} {i : Str} {j : Str} : oNe Γ (.str i) (.str j) H Q = (Q (.bl (!decide (i = j))) H) := rfl
theorem oNe_3 {Γ : Gm} {H : Hp} {Q : VK} {i : Bool} {j : Bool} : oNe Γ (.bl i) (.bl j) H Q = (Q (.bl (!decide (i = j))) H) := rfl
theorem oNe_4 {Γ : Gm} {H : Hp} {Q : VK} : oNe Γ .non .non H Q = (Q (.bl false) H) := rfl
theorem oNe_5 {Γ : Gm} {H : Hp} {Q : VK} {z1 : Int} : oNe Γ .non (.int z1) H Q = (Q (.bl true) H) := rfl
theorem oNe_6 {Γ : Gm} {H : Hp} {Q : VK} {z1 : Int} : oNe Γ (.int z1) .non H Q = (Q (.bl true) H) := rfl
theorem oNe_7 {Γ : Gm} {H : Hp} {Q : VK} {z1 : Bool} : oNe Γ .non (.bl z1) H Q = (Q (.bl true) H) := rfl
theorem oNe_8 {Γ : Gm} {H : Hp} {Q : VK} {z1 : Bool} : oNe Γ (.bl z1) .non H Q = (Q (.bl true) H) := rfl
theorem oNe_9 {Γ : Gm} {H : Hp} {Q : VK} {z1 : Str} : oNe Γ .non (.str z1) H Q = (Q (.bl true) H) := rfl
theorem oNe_10 {Γ : Gm} {H : Hp} {Q : VK} {z1 : Str} : oNe Γ (.str z1) .non H Q = (Q (.bl true) H) := rfl
theorem oIs_1 {Γ : Gm} {H : Hp} {Q : VK} {x : V} : oIs Γ x .non H Q = (Q (.bl (isN x)) H) := rfl
theorem oIsNot_1 {Γ : Gm} {H : Hp} {Q : VK} {x : V} : oIsNot Γ x .non H Q = (Q (.bl (!isN x)) H) := rfl
theorem uNeg_1 {Γ : Gm} {H : Hp} {Q : VK} {i : Int} : uNeg Γ (.int i) H Q = (Q (.int (-i)) H) := rfl
theorem cInt_1 {Γ : Gm} {H : Hp} {Q : VK} {i : Int} : cInt Γ [.int i] H Q = (Q (.int i) H) := rfl
theorem cInt_2 {Γ : Gm} {H : Hp} {Q : VK} {b : Bool} : cInt Γ [.bl b] H Q = (Q (.int (if b then 1 else 0)) H) := rfl
theorem cAbs_1 {Γ : Gm} {H : Hp} {Q : VK} {i : Int} : cAbs Γ [.int i] H Q = (Q (.int (if i < 0 then -i else i)) H) := rfl
theorem cMin_1 {Γ : Gm} {H : Hp} {Q : VK} {i : Int} {j : Int} : cMin Γ [.int i, .int j] H Q = (Q (.int (if j < i then j else i)) H) := rfl
theorem cMax_1 {Γ : Gm} {H : Hp} {Q : VK} {i : Int} {j : Int} : cMax Γ [.int i, .int j] H Q = (Q (.int (if j > i then j else i)) H) := rfl
theorem cLen_1 {Γ : Gm} {H : Hp} {Q : VK} {z : Str} : cLen Γ [.str z] H Q = (z.length ≤ sizeLine ∧ Q (.int z.length) H) := rfl
theorem sl_0 {v : V} {r : L2.St} {k : V → Prop} : sl (some v :: r) 0 k = k v := rfl
theorem sl_s {o : Option V} {r : L2.St} {n : Nat} {k : V → Prop} : sl (o :: r) (n + 1) k = sl r n k := rfl
theorem asB_1 {b : Bool} {P : Bool → Prop} : asB (.bl b) P = P b := rfl
theorem asI_1 {b : Int} {P : Int → Prop} : asI (.int b) P = P b := rfl
theorem br_1 {A B : Prop} : br true A B = A := rfl
theorem br_2 {A B : Prop} : br false A B = B := rfl
theorem two_1 {v w : V} {P : V → V → Prop} : two [v, w] P = P v w := rfl
theorem three_1 {u v w : V} {P : V → V → V → Prop} : three [u, v, w] P = P u v w := rfl
theorem tru_1 {K : PySem.W.Frag} {b : Bool} {H : Hp} {P : Bool → Prop} : tru K (.bl b) H P = P b := rfl
theorem tru_2 {K : PySem.W.Frag} {H : Hp} {P : Bool → Prop} : tru K .non H P = P false := rfl
theorem tru_3 {K : PySem.W.Frag} {i : Int} {H : Hp} {P : Bool → Prop} : tru K (.int i) H P = P (i != 0) := rfl
theorem tru_4 {K : PySem.W.Frag} {y : Str} {H : Hp} {P : Bool → Prop} : tru K (.str y) H P = (y.length ≤ sizeLine ∧ P ((y.length : Int) != 0)) := rfl
theorem nb_1 : (!true) = false := rfl
theorem nb_2 : (!false) = true := rfl
theorem isN_1 : isN (.non) = true := rfl
theorem isN_2 {i : Int} : isN (.int i) = false := rfl
theorem isN_3 {i : Str} : isN (.str i) = false := rfl
theorem isN_4 {i : Bool} : isN (.bl i) = false := rfl
theorem isN_5 {i : Addr} : isN (.ref i) = false := rfl
/-! ### the start of a body -/
theorem st_start {t : TS} {D : Ends} {σ : L2.St} {H : Hp} {N : List Str} {vs : List V} (e : L2.start N vs = σ) (h : t D σ H) : t D (L2.start N vs) H := by rw [e]; exact h
end G
namespace G
open PySem PySem.Spec PyProof.Rows L2

/-! ### what is known of the heap: facts that stay, cells that are ours, what stood at the entry -/
/-- never changed once it is made (MC: the classes whose instances change) -/
def Imm (MC : Addr → Prop) : HO → Prop
  | .tup _ => True
  | .frz _ _ => True
  | .ins C _ _ => ¬ MC C
  | _ => False
/-- all that was tracked but the cells of S is as it was -/
def Fr (S : List Addr) (H H' : Hp) : Prop := ∀ a o, a ∉ S → H a = some o → H' a = some o
theorem Fr.refl {S : List Addr} {H : Hp} : Fr S H H := fun _ _ _ h => h
theorem Fr.trans {S : List Addr} {H H1 H2 : Hp} (x : Fr S H H1) (y : Fr S H1 H2) : Fr S H H2 := fun a o n h => y a o n (x a o n h)
theorem Fr.same {H H' : Hp} (x : Fr [] H H') : Same H H' := fun a o h => x a o (List.not_mem_nil) h
theorem Fr.of {S : List Addr} {H H' : Hp} (x : Same H H') : Fr S H H' := fun a o _ h => x a o h
theorem Same.mk {H : Hp} {p : Addr} {o : HO} (h : H p = none) : Same H (L2.upd H p o) := fun a u e => by
  rw [upd_ne (ne_of_none e h)]; exact e
theorem Fr.upd {S : List Addr} {H : Hp} {p : Addr} {o : HO} (h : p ∈ S) : Fr S H (L2.upd H p o) := fun a u n e => by
  rw [upd_ne (fun z => n (by rw [z]; exact h))]; exact e
theorem Fr.new {S : List Addr} {H : Hp} {p : Addr} {o : HO} (h : H p = none) : Fr S H (L2.upd H p o) := fun a u n e => by
  rw [upd_ne (ne_of_none e h)]; exact e
/-- P hangs on the cells of S and on what never changes -/
def Loc (MC : Addr → Prop) (S : List Addr) (P : Hp → Prop) : Prop := ∀ H H' : Hp, (∀ a o, H a = some o → a ∈ S ∨ Imm MC o → H' a = some o) → P H → P H'
/-- the written part, the classes whose instances change -/
structure Hv where
  K : PySem.W.Frag
  MC : Addr → Prop
/-- a fact that stays -/
structure PF (E : Hv) where
  P : Hp → Prop
  loc : Loc E.MC [] P
/-- a thing of the heap: its cells; ro: it is read only -/
structure RS (E : Hv) where
  fp : List Addr
  P : Hp → Prop
  loc : Loc E.MC fp P
  ro : Bool := false
section
variable {E : Hv}
def fps : List (RS E) → List Addr
  | [] => []
  | r :: rs => r.fp ++ fps rs
def ows : List (RS E) → List Addr
  | [] => []
  | r :: rs => (if r.ro then [] else r.fp) ++ ows rs
inductive Pick {α : Type} : List α → α → List α → α → Prop where
  | here {r r' : α} {R : List α} : Pick (r :: R) r (r' :: R) r'
  | next {r r' x : α} {R R' : List α} : Pick R r R' r' → Pick (x :: R) r (x :: R') r'
theorem Pick.mem {α : Type} {R R' : List α} {r r' : α} (h : Pick R r R' r') : r ∈ R := by
  induction h with
  | here => exact .head _
  | next _ ih => exact .tail _ ih
theorem Pick.mem' {α : Type} {R R' : List α} {r r' : α} (h : Pick R r R' r') : r' ∈ R' := by
  induction h with
  | here => exact .head _
  | next _ ih => exact .tail _ ih
theorem Pick.or {α : Type} {R R' : List α} {r r' : α} (h : Pick R r R' r') : ∀ x ∈ R', x = r' ∨ x ∈ R := by
  induction h with
  | here => intro x hx; cases hx with
    | head => exact .inl rfl
    | tail _ h => exact .inr (.tail _ h)
  | next _ ih => intro x hx; cases hx with
    | head => exact .inr (.head _)
    | tail _ h => rcases ih x h with h | h
                  · exact .inl h
                  · exact .inr (.tail _ h)
theorem mem_fps {R : List (RS E)} {r : RS E} (h : r ∈ R) : ∀ a ∈ r.fp, a ∈ fps R := by
  induction h with
  | head => intro a ha; exact List.mem_append_left _ ha
  | tail _ _ ih => intro a ha; exact List.mem_append_right _ (ih a ha)
theorem fps_mem {R : List (RS E)} : ∀ a ∈ fps R, ∃ y ∈ R, a ∈ y.fp := by
  induction R with
  | nil => intro a ha; cases ha
  | cons y ys ih =>
    intro a ha
    rcases List.mem_append.mp ha with h | h
    · exact ⟨y, .head _, h⟩
    · obtain ⟨u, hu, k⟩ := ih a h
      exact ⟨u, .tail _ hu, k⟩
theorem mem_ows {R : List (RS E)} {r : RS E} (h : r ∈ R) (hr : r.ro = false) : ∀ a ∈ r.fp, a ∈ ows R := by
  induction h with
  | head => intro a ha; exact List.mem_append_left _ (by rw [hr]; exact ha)
  | tail _ _ ih => intro a ha; exact List.mem_append_right _ (ih a ha)
theorem ows_fps {R : List (RS E)} : ∀ a ∈ ows R, a ∈ fps R := by
  induction R with
  | nil => intro a h; exact h
  | cons r rs ih =>
    intro a h
    rcases List.mem_append.mp h with h | h
    · cases hr : r.ro with
      | true => rw [hr] at h; cases h
      | false => rw [hr] at h; exact List.mem_append_left _ h
    · exact List.mem_append_right _ (ih a h)
/-- H0, S0: the heap at the entry, the cells that may be changed -/
structure SS (E : Hv) (H0 : Hp) (S0 : List Addr) (H : Hp) (F : List (PF E)) (R : List (RS E)) : Prop where
  f : ∀ x ∈ F, x.P H
  r : ∀ x ∈ R, x.P H
  nd : (fps R).Nodup
  tr : ∀ a ∈ fps R, ∃ o, H a = some o ∧ ¬ Imm E.MC o
  fr : Fr S0 H0 H
  ow : ∀ a ∈ ows R, a ∈ S0 ∨ H0 a = none
variable {H0 H H' : Hp} {S0 : List Addr} {F F' : List (PF E)} {R R' : List (RS E)} {r r' : RS E} {x : PF E} {p : Addr} {o : HO}
theorem SS.same (s : SS E H0 S0 H F R) (k : Same H H') : SS E H0 S0 H' F R where
  f := fun x hx => x.loc H H' (fun a o h _ => k a o h) (s.f x hx)
  r := fun x hx => x.loc H H' (fun a o h _ => k a o h) (s.r x hx)
  nd := s.nd
  tr := fun a ha => by obtain ⟨o, h, i⟩ := s.tr a ha; exact ⟨o, k _ _ h, i⟩
  fr := s.fr.trans (Fr.of k)
  ow := s.ow
theorem SS.add (s : SS E H0 S0 H F R) (x : PF E) (h : x.P H) : SS E H0 S0 H (x :: F) R where
  f := fun y hy => by cases hy with
    | head => exact h
    | tail _ hy => exact s.f y hy
  r := s.r
  nd := s.nd
  tr := s.tr
  fr := s.fr
  ow := s.ow
/-- fewer facts -/
theorem SS.sub (s : SS E H0 S0 H F R) (h : ∀ x ∈ F', x ∈ F) : SS E H0 S0 H F' R := ⟨fun x hx => s.f x (h x hx), s.r, s.nd, s.tr, s.fr, s.ow⟩
theorem SS.drop (s : SS E H0 S0 H F (r :: R)) : SS E H0 S0 H F R where
  f := s.f
  r := fun x hx => s.r x (.tail _ hx)
  nd := (List.nodup_append.mp s.nd).2.1
  tr := fun a ha => s.tr a (List.mem_append_right _ ha)
  fr := s.fr
  ow := fun a ha => s.ow a (List.mem_append_right _ ha)
/-- a new thing -/
theorem SS.newR (s : SS E H0 S0 H F R) (r : RS E) (k : Same H H') (h : r.P H') (nd : r.fp.Nodup) (new : ∀ a ∈ r.fp, H a = none) (tr : ∀ a ∈ r.fp, ∃ o, H' a = some o ∧ ¬ Imm E.MC o) : SS E H0 S0 H' F (r :: R) where
  f := (s.same k).f
  r := fun x hx => by cases hx with
    | head => exact h
    | tail _ hx => exact (s.same k).r x hx
  nd := by
    refine List.nodup_append.mpr ⟨nd, s.nd, fun a ha b hb e => ?_⟩
    subst e
    obtain ⟨o, ho, _⟩ := s.tr a hb
    rw [new a ha] at ho; cases ho
  tr := fun a ha => by
    rcases List.mem_append.mp ha with ha | ha
    · exact tr a ha
    · exact (s.same k).tr a ha
  fr := (s.same k).fr
  ow := fun a ha => by
    rcases List.mem_append.mp ha with ha | ha
    · have ha' : a ∈ r.fp := by
        cases hr : r.ro with
        | true => rw [hr] at ha; cases ha
        | false => rw [hr] at ha; exact ha
      by_cases hs : a ∈ S0
      · exact .inl hs
      · refine .inr ?_
        cases q : H0 a with
        | none => rfl
        | some o =>
          have z := s.fr a o hs q
          rw [new a ha'] at z; cases z
    · exact s.ow a ha
theorem fps_pick (h : Pick R r R' r') : ∀ a ∈ fps R', a ∈ r'.fp ∨ a ∈ fps R := by
  induction h with
  | here =>
    intro a ha
    rcases List.mem_append.mp ha with ha | ha
    · exact .inl ha
    · exact .inr (List.mem_append_right _ ha)
  | next _ ih =>
    intro a ha
    rcases List.mem_append.mp ha with ha | ha
    · exact .inr (List.mem_append_left _ ha)
    · rcases ih a ha with h | h
      · exact .inl h
      · exact .inr (List.mem_append_right _ h)
theorem ows_pick (h : Pick R r R' r') : ∀ a ∈ ows R', (a ∈ r'.fp ∧ r'.ro = false) ∨ a ∈ ows R := by
  induction h with
  | @here r r' R =>
    intro a ha
    rcases List.mem_append.mp ha with ha | ha
    · cases hr : r'.ro with
      | true => rw [hr] at ha; cases ha
      | false => rw [hr] at ha; exact .inl ⟨ha, rfl⟩
    · exact .inr (List.mem_append_right _ ha)
  | next _ ih =>
    intro a ha
    rcases List.mem_append.mp ha with ha | ha
    · exact .inr (List.mem_append_left _ ha)
    · rcases ih a ha with h | h
      · exact .inl h
      · exact .inr (List.mem_append_right _ h)
/-- the cells of one thing, and those of all others -/
theorem pick_split (h : Pick R r R' r') (nd : (fps R).Nodup) : (∀ x ∈ R', x = r' ∨ (x ∈ R ∧ ∀ a ∈ x.fp, a ∉ r.fp)) := by
  induction h with
  | @here r r' R =>
    intro x hx
    cases hx with
    | head => exact .inl rfl
    | tail _ hx =>
      refine .inr ⟨.tail _ hx, fun a ha hb => ?_⟩
      exact (List.nodup_append.mp nd).2.2 a hb a (mem_fps hx a ha) rfl
  | @next r r' y R R' p ih =>
    intro x hx
    have n := List.nodup_append.mp nd
    cases hx with
    | head => exact .inr ⟨.head _, fun a ha hb => n.2.2 a ha a (mem_fps p.mem a hb) rfl⟩
    | tail _ hx =>
      rcases ih n.2.1 x hx with h | ⟨h, k⟩
      · exact .inl h
      · exact .inr ⟨.tail _ h, k⟩
theorem pick_nodup (h : Pick R r R' r') (nd : (fps R).Nodup) (nr : r'.fp.Nodup) (hn : ∀ a ∈ r'.fp, a ∈ r.fp ∨ a ∉ fps R) : (fps R').Nodup := by
  induction h with
  | @here r r' R =>
    have n := List.nodup_append.mp nd
    refine List.nodup_append.mpr ⟨nr, n.2.1, fun a ha b hb e => ?_⟩
    subst e
    rcases hn a ha with h | h
    · exact n.2.2 a h a hb rfl
    · exact h (List.mem_append_right _ hb)
  | @next r r' y R R' p ih =>
    have n := List.nodup_append.mp nd
    refine List.nodup_append.mpr ⟨n.1, ih n.2.1 nr (fun a ha => ?_), fun a ha b hb e => ?_⟩
    · rcases hn a ha with h | h
      · exact .inl h
      · exact .inr fun z => h (List.mem_append_right _ z)
    · subst e
      rcases fps_pick p a hb with h | h
      · rcases hn a h with k | k
        · exact n.2.2 a ha a (mem_fps p.mem a k) rfl
        · exact k (List.mem_append_left _ ha)
      · exact n.2.2 a ha a h rfl
/-- one thing is changed -/
theorem SS.upd (s : SS E H0 S0 H F R) (p : Pick R r R' r') (ro : r.ro = false) (k : Fr r.fp H H') (h : r'.P H') (nd : r'.fp.Nodup) (own : ∀ a ∈ r'.fp, a ∈ r.fp ∨ H a = none) (tr : ∀ a ∈ r'.fp, ∃ o, H' a = some o ∧ ¬ Imm E.MC o) : SS E H0 S0 H' F R' := by
  have imm : ∀ a o, H a = some o → Imm E.MC o → a ∉ fps R := fun a o e i z => by
    obtain ⟨u, hu, hi⟩ := s.tr a z
    rw [e] at hu; cases hu; exact hi i
  have stay : ∀ a o, H a = some o → Imm E.MC o → H' a = some o := fun a o e i => k a o (fun z => imm a o e i (mem_fps p.mem a z)) e
  have apart := pick_split p s.nd
  refine ⟨fun x hx => x.loc H H' (fun a o e z => stay a o e (z.resolve_left (List.not_mem_nil))) (s.f x hx), fun x hx => ?_, ?_, ?_, ?_, ?_⟩
  · rcases apart x hx with rfl | ⟨hx, hn⟩
    · exact h
    · exact x.loc H H' (fun a o e z => z.elim (fun z => k a o (hn a z) e) (stay a o e)) (s.r x hx)
  · refine pick_nodup p s.nd nd fun a ha => ?_
    rcases own a ha with h | h
    · exact .inl h
    · refine .inr fun z => ?_
      obtain ⟨o, ho, _⟩ := s.tr a z
      rw [h] at ho; cases ho
  · intro a ha
    rcases fps_pick p a ha with h | h
    · exact tr a h
    · obtain ⟨o, ho, hi⟩ := s.tr a h
      by_cases z : a ∈ r'.fp
      · exact tr a z
      · by_cases z2 : a ∈ r.fp
        · -- a cell of the old thing that is not one of the new one: then it is not in fps R'
          exfalso
          have this := fps_mem a ha
          obtain ⟨y, hy, hay⟩ := this
          rcases apart y hy with rfl | ⟨_, hn⟩
          · exact z hay
          · exact hn a hay z2
        · exact ⟨o, k a o z2 ho, hi⟩
  · intro a o n e
    refine k a o (fun z => ?_) (s.fr a o n e)
    rcases s.ow a (mem_ows p.mem ro a z) with h | h
    · exact n h
    · rw [h] at e; cases e
  · intro a ha
    rcases ows_pick p a ha with ⟨h, _⟩ | h
    · rcases own a h with h | h
      · exact s.ow a (mem_ows p.mem ro a h)
      · by_cases hs : a ∈ S0
        · exact .inl hs
        · refine .inr ?_
          cases q : H0 a with
          | none => rfl
          | some o =>
            have z := s.fr a o hs q
            rw [h] at z; cases z
    · exact s.ow a h
/-- at the entry: facts and things as they stand -/
theorem SS.start (f : ∀ x ∈ F, x.P H) (r : ∀ x ∈ R, x.P H) (nd : (fps R).Nodup) (tr : ∀ a ∈ fps R, ∃ o, H a = some o ∧ ¬ Imm E.MC o) : SS E H (ows R) H F R := ⟨f, r, nd, tr, Fr.refl, fun a h => .inl h⟩
theorem SS.start0 : SS E H ([] : List Addr) H [] [] := SS.start (E := E) (F := []) (R := []) (by intro _ h; cases h) (by intro _ h; cases h) List.nodup_nil (by intro _ h; cases h)

/-! ### the usual facts and things -/
def tupF (a : Addr) (xs : List V) : PF E := ⟨fun H => SqT E.K H a xs, fun H H' k h => by
  rcases h with (h | ⟨o, h⟩) | h
  · exact .inl (.inl (k _ _ h (.inr trivial)))
  · exact .inl (.inr ⟨o, k _ _ h (.inr trivial)⟩)
  · exact .inr h⟩
/-- a list that is locked (the script) or written in the text -/
def lsF (a : Addr) (xs : List V) : PF E := ⟨fun H => (∃ o, H a = some (.frz o (.lst xs))) ∨ ∃ (o : Obj) (its : Array Value) (n : Nat), E.K.lookup a = some o ∧ o.cls = .type "list" ∧ o.dict = none ∧ o.data = .seq its n ∧ its.size ≤ sizeLine ∧ Vals xs its.toList,
  fun H H' k h => h.elim (fun ⟨o, h⟩ => .inl ⟨o, k _ _ h (.inr trivial)⟩) .inr⟩
theorem lsF.sq {a : Addr} {xs : List V} {H : Hp} (h : (lsF (E := E) a xs).P H) : SqL E.K H a xs := h.elim (fun ⟨o, h⟩ => .inl (.inr ⟨o, h⟩)) .inr
/-- an instance that never changes -/
def insF (C a : Addr) (fs : List (Str × V)) (n : ¬ E.MC C) : PF E := ⟨fun H => ∃ dx, H a = some (.ins C dx fs), fun H H' k ⟨dx, h⟩ => ⟨dx, k _ _ h (.inr n)⟩⟩
/-- one cell -/
def cellR (a : Addr) (o : HO) (ro : Bool := false) : RS E := ⟨[a], fun H => H a = some o, fun H H' k h => k _ _ h (.inl (.head _)), ro⟩
abbrev lstR (a : Addr) (xs : List V) (ro : Bool := false) : RS E := cellR a (.lst xs) ro
/-- a list to be read, whatever it is -/
def seqR (a : Addr) (xs : List V) : Bool → RS E
  | true => ⟨[a], fun H => H a = some (.lst xs), fun H H' k h => k _ _ h (.inl (.head _)), true⟩
  | false => ⟨[], (lsF a xs).P, (lsF a xs).loc, true⟩
theorem seqR.sq {a : Addr} {xs : List V} {H : Hp} : ∀ {b : Bool}, (seqR (E := E) a xs b).P H → SqL E.K H a xs
  | true, h => .inl (.inl h)
  | false, h => lsF.sq (E := E) h
theorem cell_nd {a : Addr} {o : HO} {b : Bool} : (cellR (E := E) a o b).fp.Nodup := List.nodup_cons.mpr ⟨List.not_mem_nil, List.nodup_nil⟩
/-- a cell is rewritten -/
theorem SS.put (s : SS E H0 S0 H F R) {u : HO} (q : Pick R (cellR p o) R' (cellR p u)) (n : ¬ Imm E.MC u) : SS E H0 S0 (L2.upd H p u) F R' :=
  s.upd q rfl (Fr.upd (.head _)) upd_same cell_nd (fun a h => .inl h) fun a h => by
    cases h with
    | head => exact ⟨u, upd_same, n⟩
    | tail _ h => cases h
/-- a new cell -/
theorem SS.newC (s : SS E H0 S0 H F R) (hp : H p = none) (n : ¬ Imm E.MC o) : SS E H0 S0 (L2.upd H p o) F (cellR p o :: R) :=
  s.newR (cellR p o) (Same.mk hp) upd_same cell_nd (fun a h => by cases h with
    | head => exact hp
    | tail _ h => cases h) fun a h => by
    cases h with
    | head => exact ⟨o, upd_same, n⟩
    | tail _ h => cases h
/-- one new cell since the entry -/
theorem SS.of1 (hp : H p = none) (s : Same H H') (h : H' p = some o) (n : ¬ Imm E.MC o) : SS E H ([] : List Addr) H' [] [cellR p o] where
  f := fun _ h => nomatch h
  r := fun x hx => by cases hx with
    | head => exact h
    | tail _ z => cases z
  nd := List.nodup_cons.mpr ⟨List.not_mem_nil, List.nodup_nil⟩
  tr := fun a ha => by cases ha with
    | head => exact ⟨_, h, n⟩
    | tail _ z => cases z
  fr := Fr.of s
  ow := fun a ha => by cases ha with
    | head => exact .inr hp
    | tail _ z => cases z
/-- one list that is read -/
theorem SS.ro1 (h : H p = some o) (n : ¬ Imm E.MC o) : SS E H ([] : List Addr) H [] [cellR p o true] where
  f := fun _ h => nomatch h
  r := fun x hx => by cases hx with
    | head => exact h
    | tail _ z => cases z
  nd := List.nodup_cons.mpr ⟨List.not_mem_nil, List.nodup_nil⟩
  tr := fun a ha => by cases ha with
    | head => exact ⟨_, h, n⟩
    | tail _ z => cases z
  fr := Fr.refl
  ow := fun a ha => nomatch ha
theorem SS.newT (s : SS E H0 S0 H F R) {xs : List V} (hp : H p = none) : SS E H0 S0 (L2.upd H p (.tup xs)) (tupF p xs :: F) R :=
  (s.same (Same.mk hp)).add (tupF p xs) (SqT.of upd_same)
theorem SS.cell (s : SS E H0 S0 H F R) {b : Bool} (m : cellR p o b ∈ R) : H p = some o := s.r _ m
theorem SS.seq (s : SS E H0 S0 H F R) {xs : List V} {b : Bool} (m : seqR p xs b ∈ R) : SqL E.K H p xs := seqR.sq (s.r _ m)
theorem SS.tup (s : SS E H0 S0 H F R) {xs : List V} (m : tupF p xs ∈ F) : SqT E.K H p xs := s.f _ m
end
end G
namespace G
open PySem PySem.Spec PyProof.Rows L2
/-! ### values and the heap: reading, writing, making -/
section
variable {E : Hv} {Γ : Gm} {H0 H : Hp} {S0 : List Addr} {F : List (PF E)} {R R' : List (RS E)} {l : Addr} {xs : List V} {i : Int} {v : V} {Q : VK} {b : Bool} {z : Str}
theorem ixr_l {X : Cx} (g : Good Γ X) : IxR X (rIxL Γ.K) := by rw [← g.K]; exact ix_list
theorem ixr_t {X : Cx} (g : Good Γ X) : IxR X (rIxT Γ.K) := by rw [← g.K]; exact ix_tup
theorem wx_l (m : SqL Γ.K H l xs) (h : atI xs i = some v) (q : Q v H) : WX Γ (.ref l) (.int i) H Q := ⟨_, fun _ g => ixr_l g, l, xs, i, v, rfl, rfl, m, h, q⟩
theorem wx_t (m : SqT Γ.K H l xs) (h : atI xs i = some v) (q : Q v H) : WX Γ (.ref l) (.int i) H Q := ⟨_, fun _ g => ixr_t g, l, xs, i, v, rfl, rfl, m, h, q⟩
theorem wx_s {c : Nat} (hz : z.length ≤ sizeLine) (h : atI z.cps.toList i = some c) (q : Q (.str ⟨#[c]⟩) H) : WX Γ (.str z) (.int i) H Q := ⟨_, fun _ g => ix_str, z, i, c, rfl, rfl, hz, h, q⟩
theorem wp_l {v : V} {j : Nat} {Q : Hp → Prop} (m : H l = some (.lst xs)) (h : ixN xs.length i = some j) (q : Q (upd H l (.lst (xs.set j v)))) : WP Γ (.ref l) (.int i) v H Q := ⟨_, fun _ _ => set_list, l, xs, i, j, rfl, rfl, m, h, q⟩
theorem wp_ss {v : V} {j : Nat} {Q : Hp → Prop} (s : SS E H0 S0 H F R) (p : Pick R (lstR l xs) R' (lstR l (xs.set j v))) (h : ixN xs.length i = some j) (q : ∀ H', SS E H0 S0 H' F R' → Q H') : WP Γ (.ref l) (.int i) v H Q :=
  ⟨_, fun _ _ => set_list, l, xs, i, j, rfl, rfl, s.cell p.mem, h, q _ (s.put p (fun z => z))⟩
theorem wc_len_l (m : SqL Γ.K H l xs) (q : Q (.int xs.length) H) : WC Γ (.builtin "len") [.ref l] H Q := ⟨_, fun _ g => clenS g, _, xs.length, rfl, .inl ⟨xs, m, rfl⟩, q⟩
theorem wc_len_t (m : SqT Γ.K H l xs) (q : Q (.int xs.length) H) : WC Γ (.builtin "len") [.ref l] H Q := ⟨_, fun _ g => clenS g, _, xs.length, rfl, .inr ⟨xs, m, rfl⟩, q⟩
theorem ty_l {K : PySem.W.Frag} (m : SqL K H l xs) : tyV K "list" (.ref l) H := .inl ⟨rfl, _, m⟩
theorem ty_s {K : PySem.W.Frag} : tyV K "str" (.str z) H := rfl
theorem ap_ss (s : SS E H0 S0 H F R) (p : Pick R (lstR l xs) R' (lstR l (xs ++ [v]))) (hl : xs.length < sizeLine) (k : ∀ H', SS E H0 S0 H' F R' → Q .non H') : rAppend (.ref l) [v] H Q :=
  ⟨l, xs, v, rfl, rfl, s.cell p.mem, hl, k _ (s.put p (fun z => z))⟩
theorem nt_ss {xs : List V} (s : SS E H0 S0 H F R) (k : ∀ p H', SS E H0 S0 H' (tupF p xs :: F) R → Q (.ref p) H') : ∀ p, H p = none → Q (.ref p) (upd H p (.tup xs)) := fun p hp => k p _ (s.newT hp)
theorem nl_ss {xs : List V} (s : SS E H0 S0 H F R) (k : ∀ p H', SS E H0 S0 H' F (lstR p xs :: R) → Q (.ref p) H') : ∀ p, H p = none → Q (.ref p) (upd H p (.lst xs)) := fun p hp => k p _ (s.newC hp (fun z => z))
/-- tuple(l), list(x) -/
theorem ctu {X : Cx} (g : Good Γ X) : CallR X (.type "tuple") (fun xs H Q => ∃ p ys, xs = [.ref p] ∧ ((SqL Γ.K H p ys ∧ ∀ l, H l = none → Q (.ref l) (upd H l (.tup ys))) ∨ (SqT Γ.K H p ys ∧ Q (.ref p) H))) := by rw [← g.K]; exact call_tuple_of
theorem cli {X : Cx} (g : Good Γ X) : CallR X (.type "list") (fun xs H Q => ∃ p ys, xs = [.ref p] ∧ (SqL Γ.K H p ys ∨ SqT Γ.K H p ys) ∧ ∀ l, H l = none → Q (.ref l) (upd H l (.lst ys))) := by rw [← g.K]; exact call_list_of
theorem wc_tup (m : SqL Γ.K H l xs) (q : ∀ p, H p = none → Q (.ref p) (upd H p (.tup xs))) : WC Γ (.type "tuple") [.ref l] H Q := ⟨_, fun _ g => ctu g, l, xs, rfl, .inl ⟨m, q⟩⟩
theorem wc_list (m : SqL Γ.K H l xs ∨ SqT Γ.K H l xs) (q : ∀ p, H p = none → Q (.ref p) (upd H p (.lst xs))) : WC Γ (.type "list") [.ref l] H Q := ⟨_, fun _ g => cli g, l, xs, rfl, m, q⟩
/-- xs + ys of lists -/
theorem wo_cat {b : Addr} {ys : List V} (m : H l = some (.lst xs)) (n : H b = some (.lst ys)) (hz : xs.length + ys.length ≤ sizeLine) (q : ∀ p, H p = none → Q (.ref p) (upd H p (.lst (xs ++ ys)))) : WO Γ (binaryOp .Add) (.ref l) (.ref b) H Q :=
  ⟨_, fun _ _ => op_cat, l, b, xs, ys, rfl, rfl, m, n, hz, q⟩
theorem slk {X : Cx} (g : Good Γ X) : SlR X (rSlL Γ.K) := by rw [← g.K]; exact sl_list
theorem wl_l {lo hi : Option Int} (m : SqL Γ.K H l xs) (q : ∀ p, H p = none → Q (.ref p) (upd H p (.lst (cutV xs lo hi)))) : WL Γ (.ref l) lo hi H Q := ⟨_, fun _ g => slk g, l, xs, rfl, m, q⟩
theorem slt {X : Cx} (g : Good Γ X) : SlR X (rSlT Γ.K) := by rw [← g.K]; exact sl_tup
theorem wl_t {lo hi : Option Int} (m : SqT Γ.K H l xs) (n : ¬ (HT.sIx xs.length 0 lo = 0 ∧ HT.sIx xs.length xs.length hi = xs.length)) (q : ∀ p, H p = none → Q (.ref p) (upd H p (.tup (cutV xs lo hi)))) : WL Γ (.ref l) lo hi H Q := ⟨_, fun _ g => slt g, l, xs, rfl, m, n, q⟩
theorem szl {n : Nat} (h : n ≤ 100000) : n ≤ sizeLine := Nat.le_trans h (by decide)
theorem Fr.sql {K : PySem.W.Frag} {H' : Hp} (x : Fr S0 H H') (h : SqL K H l xs) (n : l ∉ S0) : SqL K H' l xs := by
  rcases h with (h | ⟨o, h⟩) | h
  · exact .inl (.inl (x _ _ n h))
  · exact .inl (.inr ⟨o, x _ _ n h⟩)
  · exact .inr h
theorem Fr.sqt {K : PySem.W.Frag} {H' : Hp} (x : Fr S0 H H') (h : SqT K H l xs) (n : l ∉ S0) : SqT K H' l xs := by
  rcases h with (h | ⟨o, h⟩) | h
  · exact .inl (.inl (x _ _ n h))
  · exact .inl (.inr ⟨o, x _ _ n h⟩)
  · exact .inr h
theorem cut_to (xs : List V) (m : Nat) : cutV xs none (some (m : Int)) = xs.take m := by
  unfold cutV
  rw [HT.sIx_none, HT.sIx_nat, List.drop_zero, Nat.sub_zero, Nat.min_def]
  split
  · rfl
  · rw [List.take_length, List.take_of_length_le (by omega)]
theorem cut_from (xs : List V) (m : Nat) : cutV xs (some (m : Int)) none = xs.drop m := by
  unfold cutV
  rw [HT.sIx_none, HT.sIx_nat, Nat.min_def]
  split
  · rw [List.take_of_length_le (by rw [List.length_drop]; omega)]
  · rw [Nat.sub_self, List.take_zero, List.drop_of_length_le (by omega)]
theorem atG {α : Type} {xs : List α} {z : Int} {j : Nat} {v : α} (e : z = (j : Int)) (h : xs[j]? = some v) : atI xs z = some v := by
  rw [e]
  exact atI_nat h
theorem ixN_n {n j : Nat} (hj : j < n) : ixN n (j : Int) = some j := by
  unfold ixN
  rw [if_pos (Int.natCast_nonneg j), if_pos (by omega)]
  rfl
/-- the tail of a tuple -/
theorem wl_tl {x : V} (m : SqT Γ.K H l (x :: xs)) (q : ∀ p, H p = none → Q (.ref p) (upd H p (.tup xs))) : WL Γ (.ref l) (some 1) none H Q := wl_t m (fun h => by
    have := h.1
    rw [show (1 : Int) = ((1 : Nat) : Int) from rfl, HT.sIx_nat, List.length_cons] at this
    omega) fun p hp => by
  have := q p hp
  rw [show (some (1 : Int)) = some ((1 : Nat) : Int) from rfl, cut_from]
  exact this
/-! ### loops -/
def LP (J : It) (g : TG) (tb : TS) (D : Ends) (σ : L2.St) (H : Hp) : Prop := ∃ W : Nat → Nat → L2.St → Hp → Prop, (∃ m, W 0 m σ H) ∧ ∀ i m σ H, W i m σ H →
  (J.stop i H ∧ D.nx σ H) ∨ (J.go i H ∧ ∃ N : L2.St → Hp → Prop, (∀ σ' H', N σ' H' → ∃ m', m' < m ∧ W (i + 1) m' σ' H') ∧ ∀ x H', J.yld i H x H' → g x σ H' fun σ2 H2 => tb { D with nx := N, ct := N, bk := D.nx } σ2 H2)
theorem tFor_eq {wi : TI} {g : TG} {tb : TS} {D : Ends} {σ : L2.St} : tFor wi g tb D σ H = wi σ H fun J H1 => LP J g tb D σ H1 := rfl
def LQ (J : It) (g : TG) (tt : TT) (te : TE) (vs : List Nat) (σ : L2.St) (D : Addr) (Q : VK) (H1 : Hp) : Prop := ∃ W : Nat → Nat → Hp → Prop, (∃ m, W 0 m (upd H1 D (.lst []))) ∧ ∀ i m H, W i m H →
  (J.stop i H ∧ Q (.ref D) H) ∨ (J.go i H ∧ ∃ Nx : Hp → Prop, (∀ H', Nx H' → ∃ m', m' < m ∧ W (i + 1) m' H') ∧ ∀ x H', J.yld i H x H' → g x (wipe σ vs) H' fun σ2 H2 => wipe σ2 vs = wipe σ vs ∧ tt σ2 H2 fun b H3 =>
    if b = true then te σ2 H3 fun y H4 => ∃ acc, H4 D = some (.lst acc) ∧ acc.length < sizeLine ∧ Nx (upd H4 D (.lst (acc ++ [y]))) else Nx H3)
theorem tLc_eq {wi : TI} {g : TG} {tt : TT} {te : TE} {vs : List Nat} {σ : L2.St} : tLc wi g tt te vs σ H Q = wi σ H fun J H1 => ∀ D, H1 D = none → LQ J g tt te vs σ D Q H1 := rfl
section
variable {J : It} {n : Nat} {G : Hp → Prop} {Y : Nat → Hp → V → Hp → Prop}
/-- a for over what is walked -/
theorem lp_it (w : Walk J n G Y) {g : TG} {tb : TS} {D : Ends} {σ : L2.St} (Pv : Nat → L2.St → Hp → Prop) (h0 : Pv 0 σ H) (hG : ∀ i σ H, i ≤ n → Pv i σ H → G H)
    (hs : ∀ i x σ H H', i < n → Pv i σ H → Y i H x H' → g x σ H' fun σ2 H2 => tb ⟨Pv (i + 1), D.rt, D.nx, Pv (i + 1)⟩ σ2 H2) (hd : ∀ σ H, Pv n σ H → D.nx σ H) : LP J g tb D σ H := for_it w Pv h0 hG hs hd
theorem lp_range {lo : Int} {n : Nat} {g : TG} {tb : TS} {D : Ends} {σ : L2.St} (Pv : Nat → L2.St → Hp → Prop) (h0 : Pv 0 σ H)
    (hs : ∀ i σ H, i < n → Pv i σ H → g (.int (lo + i)) σ H fun σ2 H2 => tb ⟨Pv (i + 1), D.rt, D.nx, Pv (i + 1)⟩ σ2 H2) (hd : ∀ σ H, Pv n σ H → D.nx σ H) : LP (Itr lo n) g tb D σ H := for_range Pv h0 hs hd
theorem lp_list {a : Addr} {xs : List V} {g : TG} {tb : TS} {D : Ends} {σ : L2.St} {K : PySem.W.Frag} (Pv : Nat → L2.St → Hp → Prop) (h0 : Pv 0 σ H) (hl : ∀ i σ H, i ≤ xs.length → Pv i σ H → SqL K H a xs)
    (hs : ∀ i x σ H, xs[i]? = some x → Pv i σ H → g x σ H fun σ2 H2 => tb ⟨Pv (i + 1), D.rt, D.nx, Pv (i + 1)⟩ σ2 H2) (hd : ∀ σ H, Pv xs.length σ H → D.nx σ H) : LP (Itl K a) g tb D σ H := for_list Pv h0 hl hs hd
theorem lp_tup {a : Addr} {xs : List V} {g : TG} {tb : TS} {D : Ends} {σ : L2.St} {K : PySem.W.Frag} (Pv : Nat → L2.St → Hp → Prop) (h0 : Pv 0 σ H) (hl : ∀ i σ H, i ≤ xs.length → Pv i σ H → SqT K H a xs)
    (hs : ∀ i x σ H, xs[i]? = some x → Pv i σ H → g x σ H fun σ2 H2 => tb ⟨Pv (i + 1), D.rt, D.nx, Pv (i + 1)⟩ σ2 H2) (hd : ∀ σ H, Pv xs.length σ H → D.nx σ H) : LP (Itt K a) g tb D σ H := for_tup Pv h0 hl hs hd
/-- a comprehension over what is walked; acc is what has been made -/
theorem lq_it (w : Walk J n G Y) {g : TG} {tt : TT} {te : TE} {vs : List Nat} {σ : L2.St} {D : Addr} (Pv : Nat → List V → Hp → Prop) (h0 : Pv 0 [] (upd H D (.lst []))) (hG : ∀ i acc H, i ≤ n → Pv i acc H → G H)
    (hs : ∀ i x acc H H', i < n → acc.length ≤ i → Pv i acc H → Y i H x H' → g x (wipe σ vs) H' fun σ2 H2 => wipe σ2 vs = wipe σ vs ∧ tt σ2 H2 fun b H3 =>
      br b (te σ2 H3 fun y H4 => ∃ acc', H4 D = some (.lst acc') ∧ acc'.length < sizeLine ∧ ∃ acc2, acc2.length ≤ i + 1 ∧ Pv (i + 1) acc2 (upd H4 D (.lst (acc' ++ [y])))) (∃ acc2, acc2.length ≤ i + 1 ∧ Pv (i + 1) acc2 H3))
    (hd : ∀ acc H, acc.length ≤ n → Pv n acc H → Q (.ref D) H) : LQ J g tt te vs σ D Q H :=
  lc_it w (fun i H => ∃ acc, acc.length ≤ i ∧ Pv i acc H) ⟨[], Nat.zero_le _, h0⟩ (fun i H hi ⟨acc, _, h⟩ => hG i acc H hi h) (fun i x H H' hi ⟨acc, hl, h⟩ y => by
    have := hs i x acc H H' hi hl h y
    simp only [← br_eq] at this
    exact this) fun H ⟨acc, hl, h⟩ => hd acc H hl h
end
/-- the end of a turn: the new item is appended to the comprehension's own list, which is ours -/
theorem lq_add {D : Addr} {acc : List V} {i : Nat} {P : List V → Prop} (s : SS E H0 S0 H F (lstR D acc :: R)) (hl : acc.length ≤ i) (hi : i < sizeLine) (k : P acc) : ∃ acc', H D = some (.lst acc') ∧ acc'.length < sizeLine ∧ P acc' :=
  ⟨acc, s.cell (.head _), Nat.lt_of_le_of_lt hl hi, k⟩
theorem lq_len {acc : List V} {y : V} {i : Nat} (hl : acc.length ≤ i) : (acc ++ [y]).length ≤ i + 1 := by rw [List.length_append, List.length_singleton]; omega
theorem SS.app {D : Addr} {acc : List V} {y : V} (s : SS E H0 S0 H F (lstR D acc :: R)) : SS E H0 S0 (L2.upd H D (.lst (acc ++ [y]))) F (lstR D (acc ++ [y]) :: R) := s.put .here (fun z => z)
theorem lt_size {n : Nat} (h : n < 100000) : n < sizeLine := Nat.lt_of_lt_of_le h (by decide)
theorem nodup_len {α : Type} [DecidableEq α] : ∀ (l D : List α), l.Nodup → (∀ x ∈ l, x ∈ D) → l.length ≤ D.length
  | [], D, _, _ => Nat.zero_le _
  | x :: r, D, h, k => by
    have hx := k x (.head _)
    have n := List.nodup_cons.mp h
    have ih := nodup_len r (D.erase x) n.2 fun y hy => (List.mem_erase_of_ne (fun e => n.1 (by rw [← e]; exact hy))).mpr (k y (.tail _ hy))
    rw [List.length_erase_of_mem hx] at ih
    have : 0 < D.length := List.length_pos_of_mem hx
    rw [List.length_cons]
    omega
end
end G
namespace G
open PySem PySem.Spec PyProof.Rows L2
theorem passE {X : Cx} {E : XK} : Passes CX0 X E := fun _ _ _ _ _ _ _ h => h.elim
/-! ### own classes: what the text has written of them -/
structure Kls (Γ : Gm) (C : Addr) : Prop where
  cls : Cls Γ.K C
  first : PySem.W.selfFirst Γ.K C = true
  ca : PySem.W.findIn Γ.K (.ref C) "__class__" = some (some (.builtin "object.__class__"))
  cn : PySem.W.specialIn Γ.K (.builtin "object.__class__") "__get__" = some (some (.builtin "getset_descriptor.__get__"))
  ct : PySem.W.takesIn Γ.K (.builtin "object.__class__") = some true
  cm : PySem.W.mroIn Γ.K C (.type "object") = some true
/-- a method: what it promises -/
structure Mt (Γ : Gm) (CX : CXT) (k : Nat) (C : Addr) (m : Str) (sp : Sp) (dvs : List V) : Prop where
  ex : ∃ (f : Addr) (fd : FuncData) (ps : List Str) (ds : List Value), FnOk Γ.P Γ.w Γ.K Γ.mg Γ.base CX k f fd ps sp ∧ Cls Γ.K C ∧ Meth Γ.K C m f ∧ Binds Γ.K fd ps ds ∧ Vals dvs ds
/-- where a method stands -/
structure DfM (Γ : Gm) (C : Addr) (m qual : Str) (st : Stmt) (ps : List Str) : Prop where
  ex : ∃ (f : Addr) (fd : FuncData), L2.Fun Γ.K m qual st f fd ∧ Cls Γ.K C ∧ Meth Γ.K C m f ∧ Binds Γ.K fd ps []
/-- where a property's getter stands -/
structure DfP (Γ : Gm) (C : Addr) (m qual : Str) (st : Stmt) (ps : List Str) : Prop where
  ex : ∃ (p f : Addr) (fd : FuncData), L2.Fun Γ.K m qual st f fd ∧ Cls Γ.K C ∧ PropOf Γ.K C m p f ∧ Binds Γ.K fd ps []
/-- a property -/
structure Pr (Γ : Gm) (CX : CXT) (k : Nat) (C : Addr) (m : Str) (sp : Sp) : Prop where
  ex : ∃ (p f : Addr) (fd : FuncData) (ps : List Str), FnOk Γ.P Γ.w Γ.K Γ.mg Γ.base CX k f fd ps sp ∧ Cls Γ.K C ∧ PropOf Γ.K C m p f ∧ Binds Γ.K fd ps []
/-- a class that is made -/
structure Mkr (Γ : Gm) (CX : CXT) (k : Nat) (x : Str) (C : Addr) (sp : Sp) (dvs : List V) : Prop where
  ex : ∃ (f : Addr) (fd : FuncData) (ps : List Str) (ds : List Value), FnOk Γ.P Γ.w Γ.K Γ.mg Γ.base CX k f fd ps sp ∧ Mk Γ.K C f ∧ Γ.mg x = some (.ref C) ∧ Binds Γ.K fd ps ds ∧ Vals dvs ds
section
variable {Γ : Gm} {C : Addr} {m qual : Str} {st : Stmt} {ps N : List Str} {k : Nat} {sp : Sp}
/-- the rule for a method, by its body -/
theorem DfM.mt (d : DfM Γ C m qual st ps) (S : FnScope N ps (defScope st)) (len : ∀ vs H Q E, sp vs H Q E → vs.length = ps.length)
    (hbody : ∀ (f : Addr) (cdv : Value) (A : Around) (outer : List Env) (s : Shared) (H : Hp) (vs : List V) (Q : VK) (E : XK), Good (Γ.at k) (cxOf CX0 Γ.P Γ.w Γ.K Γ.mg Γ.base N qual (defScope st) f cdv A outer s H E).nox → sp vs H Q E →
      ∃ t, PSs (cxOf CX0 Γ.P Γ.w Γ.K Γ.mg Γ.base N qual (defScope st) f cdv A outer s H E).nox (defBody st) t ∧ t { nx := fun _ H' => Q .non H', rt := Q } (L2.start N vs) H) : Mt Γ CX0 (k + 1) C m sp [] := by
  obtain ⟨f, fd, F, c, h, b⟩ := d.ex
  exact ⟨f, fd, ps, [], F.ok S len fun cdv A outer s H vs Q E hr h => hbody f cdv A outer s H vs Q E (Good.of hr).nox h, c, h, b, .nil⟩
theorem DfP.pr (d : DfP Γ C m qual st ps) (S : FnScope N ps (defScope st)) (len : ∀ vs H Q E, sp vs H Q E → vs.length = ps.length)
    (hbody : ∀ (f : Addr) (cdv : Value) (A : Around) (outer : List Env) (s : Shared) (H : Hp) (vs : List V) (Q : VK) (E : XK), Good (Γ.at k) (cxOf CX0 Γ.P Γ.w Γ.K Γ.mg Γ.base N qual (defScope st) f cdv A outer s H E).nox → sp vs H Q E →
      ∃ t, PSs (cxOf CX0 Γ.P Γ.w Γ.K Γ.mg Γ.base N qual (defScope st) f cdv A outer s H E).nox (defBody st) t ∧ t { nx := fun _ H' => Q .non H', rt := Q } (L2.start N vs) H) : Pr Γ CX0 (k + 1) C m sp := by
  obtain ⟨p, f, fd, F, c, h, b⟩ := d.ex
  exact ⟨p, f, fd, ps, F.ok S len fun cdv A outer s H vs Q E hr h => hbody f cdv A outer s H vs Q E (Good.of hr).nox h, c, h, b⟩
theorem Mt.imp {CX : CXT} {j : Nat} {sp' : Sp} {dvs : List V} (c : Mt Γ CX k C m sp dvs) (h : ∀ vs H Q E, sp' vs H Q E → sp vs H Q E) (hk : k ≤ j) : Mt Γ CX j C m sp' dvs := by
  obtain ⟨f, fd, ps, ds, F, r⟩ := c.ex
  exact ⟨f, fd, ps, ds, (F.imp h).mono hk, r⟩
theorem Mt.mkr {x : Str} {CX : CXT} (c : Mt Γ CX k C "__init__" sp []) (h1 : PySem.W.makesIn Γ.K C = true) (h2 : PySem.W.keepIn Γ.K (.ref C) = true) (h3 : Γ.mg x = some (.ref C)) : Mkr Γ CX k x C sp [] := by
  obtain ⟨f, fd, ps, ds, F, c, h, b, v⟩ := c.ex
  exact ⟨f, fd, ps, ds, F, ⟨h1, h.at_, h.fn, h2⟩, h3, b, v⟩
end
/-! ### defaults -/
/-- a def with defaults for its last parameters, which may be passed by name -/
structure DfD (Γ : Gm) (x : Str) (st : Stmt) (ps : List Str) (dvs : List V) : Prop where
  ex : ∃ (f : Addr) (fd : FuncData), FunD Γ.K x x (defArgs st) (defBody st) (defScope st) dvs [] f fd ∧ Γ.mg x = some (.ref f) ∧ Binds Γ.K fd ps [] ∧ (∃ ds, Vals dvs ds ∧ Binds Γ.K fd ps ds) ∧
    KBn Γ.K fd ps (ps.length - dvs.length) (ps.drop (ps.length - dvs.length)) (fun us ws => us ++ ws) (fun vs zs => vs ++ zs)
/-- a def called with keywords: n values, then those named ks -/
structure Clk (Γ : Gm) (CX : CXT) (k : Nat) (x : Str) (sp : Sp) (n : Nat) (ks : List Str) : Prop where
  ex : ∃ (f : Addr) (fd : FuncData) (ps : List Str), FnOk Γ.P Γ.w Γ.K Γ.mg Γ.base CX k f fd ps sp ∧ Γ.mg x = some (.ref f) ∧ PySem.W.keepIn Γ.K (.ref f) = true ∧ KBn Γ.K fd ps n ks (fun us ws => us ++ ws) (fun vs zs => vs ++ zs)
structure ClD (Γ : Gm) (CX : CXT) (k : Nat) (x : Str) (sp : Sp) (ps : List Str) (dvs : List V) : Prop where
  all : Cl Γ CX k x sp []
  few : Cl Γ CX k x sp dvs
  kw : Clk Γ CX k x sp (ps.length - dvs.length) (ps.drop (ps.length - dvs.length))
theorem DfD.cl {Γ : Gm} {x : Str} {st : Stmt} {ps N : List Str} {dvs : List V} {k : Nat} {sp : Sp} (d : DfD Γ x st ps dvs) (S : FnScope N ps (defScope st)) (len : ∀ vs H Q E, sp vs H Q E → vs.length = ps.length)
    (hbody : ∀ (f : Addr) (cdv : Value) (A : Around) (outer : List Env) (s : Shared) (H : Hp) (vs : List V) (Q : VK) (E : XK), Good (Γ.at k) (cxOf CX0 Γ.P Γ.w Γ.K Γ.mg Γ.base N x (defScope st) f cdv A outer s H E) → sp vs H Q E →
      ∃ t, PSs (cxOf CX0 Γ.P Γ.w Γ.K Γ.mg Γ.base N x (defScope st) f cdv A outer s H E) (defBody st) t ∧ t { nx := fun _ H' => Q .non H', rt := Q } (L2.start N vs) H) : ClD Γ CX0 (k + 1) x sp ps dvs := by
  obtain ⟨f, fd, F, m, b, ⟨ds, v, b2⟩, kb⟩ := d.ex
  have ok := F.ok (P := Γ.P) (w := Γ.w) (mg := Γ.mg) (base := Γ.base) (CX := CX0) (k := k) S len fun cdv A outer s H vs Q E hr h => hbody f cdv A outer s H vs Q E (Good.of hr) h
  exact ⟨⟨f, fd, ps, [], ok, m, F.kp, b, .nil⟩, ⟨f, fd, ps, ds, ok, m, F.kp, b2, v⟩, ⟨f, fd, ps, ok, m, F.kp, kb⟩⟩
theorem pclk {Γ : Gm} {X : Cx} {CX : CXT} {k l n : Nat} {x : Str} {sp : Sp} {ks : List Str} {E : XK} {p pos : Pos} {e : Expr} {es : List Expr} {kws : List Keyword} {t tk : TA} (c : Clk Γ CX k x sp n ks) (g : Good (Γ.at l) X) (hk : k ≤ l) (hg : gvB X.env.scope x = true) (hx : Passes CX X E)
    (ha : PA X (e :: es) t) (hkw : PK X kws tk) (hall : (backToKw pos (keywordEach kws X.env)).all (·.1.isSome) = true := by rfl) (hks : (backToKw pos (keywordEach kws X.env)).filterMap (·.1) = ks := by rfl)
    (he : starEach (e :: es) X.env = (false, eval e X.env) :: starEach es X.env := by rfl)
    (hpl : ((backTo pos (starEach (e :: es) X.env)).any (·.1) || (backToKw pos (keywordEach kws X.env)).any (·.1.isNone)) = false := by rfl) :
    PE X (.Call (.Name x p) (e :: es) kws pos) (tCallN n ks.length sp (fun vs zs => vs ++ zs) E t tk) := by
  obtain ⟨P, w, K, mg, base, lv⟩ := Γ
  obtain ⟨h1, h2, h3, h4, h5, _, hr⟩ := g
  simp only at h1 h2 h3 h4 h5 hr
  subst h1 h2 h3 h4 h5
  obtain ⟨f, fd, ps, F, m, kp, kb⟩ := c.ex
  exact pe_callN F (hr.mono hk) (gv_of hg).1 m kp kb hx ha hkw hall hks (gv_of hg).2.1 he hpl
/-! ### attributes by values -/
def AtR (X : Cx) (f : Str) (r : V → Hp → VK → Prop) : Prop := ∀ (pins : List (Addr × Obj)) (s : Shared) (σ : L2.St) (H : Hp) (x : V) (v : Value) (b : Bool) (Q : VK), Inv X pins σ H s → RelV x v → r x H Q →
  wpAny (model X.prog X.w) X.A (getAttr v f b) (EP X pins σ Q) X.xe s
def WA (Γ : Gm) (f : Str) : V → Hp → VK → Prop := fun x H Q => ∃ r, (∀ X, Good Γ X → AtR X f r) ∧ r x H Q
section
variable {Γ : Gm} {X : Cx} {f : Str} {e o : Expr} {es : List Expr} {te ta : TE} {t : TA} {pos p apos : Pos} {r : V → Hp → VK → Prop} {a b C dx dy D : Addr} {fs gs : List (Str × V)} {H : Hp} {Q : VK} {v : V} {n l : Nat} {sp : Sp} {E : XK} {CX : CXT} {dvs : List V} {x m : Str}
theorem WA.ok (g : Good Γ X) : AtR X f (WA Γ f) := fun pins s σ H x v b Q I rx ⟨_, h, q⟩ => h X g pins s σ H x v b Q I rx q
theorem pe_at (h : AtR X f r) (he : PE X e te) (hb : attributeBase e f X.env (eval e X.env) = eval e X.env := by rfl) : PE X (.Attribute e f pos) (tUn r te) := by
  refine ⟨fun pins s σ H Q I q => ?_⟩
  exact attr_of hb (thn (he.run pins s σ H _ I q) fun u s1 ⟨x, H1, I1, rx, q⟩ => h pins s1 σ H1 x u _ Q I1 rx q)
theorem wa_fld (c : Cls Γ.K C) (k : NoAttr Γ.K C f) (ea : H a = some (.ins C dx fs)) (l : fs.lookup f = some v) (q : Q v H) : WA Γ f (.ref a) H Q :=
  ⟨fun x H Q => ∃ a C dx fs v, x = .ref a ∧ H a = some (.ins C dx fs) ∧ Cls Γ.K C ∧ NoAttr Γ.K C f ∧ fs.lookup f = some v ∧ Q v H, fun X g pins s σ H x u b Q I rx ⟨a, C, dx, fs, v, ex, ea, c, k, l, q⟩ => by
    subst ex
    obtain rfl : u = Value.ref a := rx
    rw [← g.K] at c k
    exact getattr_ok I ea c k l fun u' s2 I2 ru => ⟨v, H, I2, ru, q⟩, a, C, dx, fs, v, rfl, ea, c, k, l, q⟩
theorem wa_prop (p : Pr Γ CX0 n C f sp) (hn : n + 1 ≤ l) (ea : H a = some (.ins C dx fs)) (q : sp [.ref a] H Q E) : WA (Γ.at l) f (.ref a) H Q :=
  ⟨fun x H Q => ∃ a dx fs, x = .ref a ∧ H a = some (.ins C dx fs) ∧ sp [.ref a] H Q E, fun X g pins s σ H x u b Q I rx ⟨a, dx, fs, ex, ea, q⟩ => by
    subst ex
    obtain rfl : u = Value.ref a := rx
    obtain ⟨P, w, K, mg, base, lv⟩ := Γ
    obtain ⟨h1, h2, h3, h4, h5, _, hr⟩ := g
    simp only at h1 h2 h3 h4 h5 hr
    subst h1 h2 h3 h4 h5
    obtain ⟨p, g, fd, ps, F, c, hp, hb⟩ := p.ex
    exact getprop_ok I ea c hp F (hr.mono hn) hb .nil passE q, a, dx, fs, rfl, ea, q⟩
/-! ### methods, by what stands at the object -/
def tMw (Γ : Gm) (m : Str) (ta : TE) (t : TA) : TE := fun σ H Q => ta σ H fun x H1 => ∃ (n : Nat) (C a dx : Addr) (fs : List (Str × V)) (sp : Sp) (dvs : List V) (E : XK), Mt Γ CX0 n C m sp dvs ∧ n ≤ Γ.lv ∧ x = .ref a ∧ H1 a = some (.ins C dx fs) ∧ fs.lookup m = none ∧
  t σ H1 fun vs H2 => sp (x :: (vs ++ dvs)) H2 Q E
theorem pe_mw {pl : Sem Bool} (g : Good Γ X) (he : PE X o ta) (ha : PA X (e :: es) t)
    (hst : starEach (e :: es) X.env = (false, eval e X.env) :: starEach es X.env := by rfl) (hpl : (backTo pos (starEach es X.env)).any (·.1) = false := by rfl)
    (ht : eval (.Call (.Attribute o m apos) (e :: es) [] pos) X.env = (do
      let ov ← eval o X.env
      standAt apos.atName
      let (f, first) ← holding [ov] (getMethod ov m pl)
      callWith pos f first (backTo pos (starEach (e :: es) X.env)) (backToKw pos (keywordEach [] X.env))) := by rfl) :
    PE X (.Call (.Attribute o m apos) (e :: es) [] pos) (tMw Γ m ta t) := by
  refine ⟨fun pins s σ H Q I h => ?_⟩
  refine PySem.W.methodCall_KW (pl := pl) (thn (he.run pins s σ H _ I h) fun u s1 ⟨x, H1, I1, rx, n, C, a, dx, fs, sp, dvs, E, M, hn, ex, ea, l, q⟩ => ?_) ht
  subst ex
  obtain rfl : u = Value.ref a := rx
  obtain ⟨P, w, K, mg, base, lv⟩ := Γ
  obtain ⟨h1, h2, h3, h4, h5, _, hr⟩ := g
  simp only at h1 h2 h3 h4 h5 hr
  subst h1 h2 h3 h4 h5
  obtain ⟨f, fd, ps, ds, F, c, hm, hb, hd⟩ := M.ex
  refine getmeth_ok I1 ea c hm l ?_
  refine PySem.W.callWith_K (first := [.ref a]) (h₀ := X.base) I.ok.mod.kin hm.kp (thn (ha.run pos pins s1 σ H1 _ I1 q) fun us s2 ⟨vs, H2, I2, r, q2⟩ => ⟨I2.kIn, ?_⟩) hst hpl
  exact run_fn (us := .ref a :: us) (vs := .ref a :: vs) F (hr.mono hn) hb hd passE I2 (.cons rfl r) q2
theorem pe_mw0 {pl : Sem Bool} (g : Good Γ X) (he : PE X o ta)
    (ht : eval (.Call (.Attribute o m apos) [] [] pos) X.env = (do
      let ov ← eval o X.env
      standAt apos.atName
      let (f, first) ← holding [ov] (getMethod ov m pl)
      callWith pos f first (backTo pos (starEach [] X.env)) (backToKw pos (keywordEach [] X.env))) := by rfl) :
    PE X (.Call (.Attribute o m apos) [] [] pos) (tMw Γ m ta tNil) := by
  refine ⟨fun pins s σ H Q I h => ?_⟩
  refine PySem.W.methodCall_KW (pl := pl) (thn (he.run pins s σ H _ I h) fun u s1 ⟨x, H1, I1, rx, n, C, a, dx, fs, sp, dvs, E, M, hn, ex, ea, l, q⟩ => ?_) ht
  subst ex
  obtain rfl : u = Value.ref a := rx
  obtain ⟨P, w, K, mg, base, lv⟩ := Γ
  obtain ⟨h1, h2, h3, h4, h5, _, hr⟩ := g
  simp only at h1 h2 h3 h4 h5 hr
  subst h1 h2 h3 h4 h5
  obtain ⟨f, fd, ps, ds, F, c, hm, hb, hd⟩ := M.ex
  refine getmeth_ok I1 ea c hm l ?_
  exact PySem.W.callWith_K0 (first := [.ref a]) I1.kIn hm.kp (run_fn (us := [.ref a]) (vs := [.ref a]) F (hr.mono hn) hb hd passE I1 (.cons rfl .nil) q)
/-- C(..) -/
theorem pmk (M : Mkr Γ CX n x C sp dvs) (g : Good (Γ.at l) X) (hn : n + 1 ≤ l) (hg : gvB X.env.scope x = true) (hx : Passes CX X E) (ha : PA X (e :: es) t)
    (he : starEach (e :: es) X.env = (false, eval e X.env) :: starEach es X.env := by rfl) (hpl : (backTo pos (starEach es X.env)).any (·.1) = false := by rfl) :
    PE X (.Call (.Name x p) (e :: es) [] pos) (tMake C sp dvs E t) := by
  obtain ⟨P, w, K, mg, base, lv⟩ := Γ
  obtain ⟨h1, h2, h3, h4, h5, _, hr⟩ := g
  simp only at h1 h2 h3 h4 h5 hr
  subst h1 h2 h3 h4 h5
  obtain ⟨f, fd, ps, ds, F, mk, hm, hb, hd⟩ := M.ex
  exact pe_make mk F (hr.mono hn) (gv_of hg).1 hm hb hd hx ha (gv_of hg).2.1 he hpl
/-! ### own operators -/
theorem own_at {pins : List (Addr × Obj)} {σ : L2.St} {s : Shared} (I : Inv X pins σ H s) (ea : H a = some (.ins C dx fs)) : ∃ od, PySem.W.InstAt s.heap a (PySem.W.instObj C dx) C (some od) := by
  obtain ⟨mA, O, _, _, _, _⟩ := ins_get I.hok ea
  obtain ⟨od, J, _⟩ := O.look
  exact ⟨od, J⟩
/-- x op y of two instances of one class -/
theorem wo_own {op : Operator} (k : Kls Γ C) (M : Mt Γ CX0 n C (PySem.dunder op.info.2) sp []) (hn : n ≤ l) (ha : H a = some (.ins C dx fs)) (hb : H b = some (.ins C dy gs)) (q : sp [.ref a, .ref b] H Q E) : WO (Γ.at l) (binaryOp op) (.ref a) (.ref b) H Q :=
  ⟨fun x y H Q => ∃ a dx fs b dy gs, x = .ref a ∧ y = .ref b ∧ H a = some (.ins C dx fs) ∧ H b = some (.ins C dy gs) ∧ sp [.ref a, .ref b] H Q E, fun X g pins s σ H x y v u Q I rx ry ⟨a, dx, fs, b, dy, gs, ex, ey, ha, hb, q⟩ => by
    subst ex; subst ey
    obtain rfl : v = Value.ref a := rx
    obtain rfl : u = Value.ref b := ry
    obtain ⟨P, w, K, mg, base, lv⟩ := Γ
    obtain ⟨h1, h2, h3, h4, h5, _, hr⟩ := g
    simp only at h1 h2 h3 h4 h5 hr
    subst h1 h2 h3 h4 h5
    obtain ⟨f, fd, ps, ds, F, c, hm, hbi, hd⟩ := M.ex
    obtain ⟨od, J⟩ := own_at I ha
    obtain ⟨od', J'⟩ := own_at I hb
    obtain ⟨m, hF⟩ := I.fr
    refine PySem.W.binop_K hF I.ok.mod.kin J J'.type k.first hm.at_ hm.fn ?_
    refine wpAny_mono (run_fn (us := [.ref a, .ref b]) (vs := [.ref a, .ref b]) F (hr.mono hn) hbi hd passE I (.cons rfl (.cons rfl .nil)) q) (fun w s' z => ?_) fun _ _ x => x
    obtain ⟨z', H', I', rz, qz⟩ := z
    exact SlX.cmpback rz ⟨z', H', I', rz, qz⟩, a, dx, fs, b, dy, gs, rfl, rfl, ha, hb, q⟩
/-- x op y, y a thing of a built-in type -/
theorem wo_ownT {op : Operator} {T : String} {fo ro rc : Option Value} {y : V} (hty : ∀ u, RelV y u → typeOf u = pure (.type T)) (k : Kls Γ C) (M : Mt Γ CX0 n C (PySem.dunder op.info.2) sp []) (hn : n ≤ l) (hr : PySem.W.findIn Γ.K (.ref C) (dunderR op.info.2) = some rc) (hp : rc = none ∨ ∃ g : Addr, rc = some (.ref g))
    (h1 : PySem.W.findIn Γ.K (.type T) (PySem.dunder op.info.2) = some fo) (h2 : PySem.W.findIn Γ.K (.type T) (dunderR op.info.2) = some ro) (hsub : PySem.W.subIn Γ.K (.type T) (.ref C) = some false)
    (ha : H a = some (.ins C dx fs)) (q : sp [.ref a, y] H Q E) : WO (Γ.at l) (binaryOp op) (.ref a) y H Q :=
  ⟨fun x y' H Q => ∃ a dx fs, x = .ref a ∧ y' = y ∧ H a = some (.ins C dx fs) ∧ sp [.ref a, y] H Q E, fun X g pins s σ H x y' v u Q I rx ry ⟨a, dx, fs, ex, ey, ha, q⟩ => by
    subst ex; subst ey
    obtain rfl : v = Value.ref a := rx
    obtain ⟨P, w, K, mg, base, lv⟩ := Γ
    obtain ⟨e1, e2, e3, e4, e5, _, hro⟩ := g
    simp only at e1 e2 e3 e4 e5 hro
    subst e1 e2 e3 e4 e5
    obtain ⟨f, fd, ps, ds, F, c, hm, hbi, hd⟩ := M.ex
    obtain ⟨od, J⟩ := own_at I ha
    obtain ⟨m, hF⟩ := I.fr
    refine PySem.W.ksp_binT hF I.ok.mod.kin J (hty u ry) k.first hm.at_ hm.fn hr hp h1 h2 hsub ?_
    refine wpAny_mono (run_fn (us := [.ref a, u]) (vs := [.ref a, y']) F (hro.mono hn) hbi hd passE I (.cons rfl (.cons ry .nil)) q) (fun w s' z => ?_) fun _ _ x => x
    obtain ⟨z', H', I', rz, qz⟩ := z
    exact SlX.cmpback rz ⟨z', H', I', rz, qz⟩, a, dx, fs, rfl, rfl, ha, q⟩
theorem wu_negO (M : Mt Γ CX0 n C "__neg__" sp []) (hn : n ≤ l) (ha : H a = some (.ins C dx fs)) (q : sp [.ref a] H Q E) : WU (Γ.at l) (unaryOp .USub) (.ref a) H Q :=
  ⟨fun x H Q => ∃ a dx fs, x = .ref a ∧ H a = some (.ins C dx fs) ∧ sp [.ref a] H Q E, fun X g pins s σ H x v Q I rx ⟨a, dx, fs, ex, ha, q⟩ => by
    subst ex
    obtain rfl : v = Value.ref a := rx
    obtain ⟨P, w, K, mg, base, lv⟩ := Γ
    obtain ⟨h1, h2, h3, h4, h5, _, hr⟩ := g
    simp only at h1 h2 h3 h4 h5 hr
    subst h1 h2 h3 h4 h5
    obtain ⟨f, fd, ps, ds, F, c, hm, hbi, hd⟩ := M.ex
    obtain ⟨od, J⟩ := own_at I ha
    obtain ⟨m, hF⟩ := I.fr
    exact PySem.W.ksp_neg hF I.ok.mod.kin J hm.at_ hm.fn (run_fn (us := [.ref a]) (vs := [.ref a]) F (hr.mono hn) hbi hd passE I (.cons rfl .nil) q), a, dx, fs, rfl, ha, q⟩
theorem wu_invO (M : Mt Γ CX0 n C "__invert__" sp []) (hn : n ≤ l) (ha : H a = some (.ins C dx fs)) (q : sp [.ref a] H Q E) : WU (Γ.at l) (unaryOp .Invert) (.ref a) H Q :=
  ⟨fun x H Q => ∃ a dx fs, x = .ref a ∧ H a = some (.ins C dx fs) ∧ sp [.ref a] H Q E, fun X g pins s σ H x v Q I rx ⟨a, dx, fs, ex, ha, q⟩ => by
    subst ex
    obtain rfl : v = Value.ref a := rx
    obtain ⟨P, w, K, mg, base, lv⟩ := Γ
    obtain ⟨h1, h2, h3, h4, h5, _, hr⟩ := g
    simp only at h1 h2 h3 h4 h5 hr
    subst h1 h2 h3 h4 h5
    obtain ⟨f, fd, ps, ds, F, c, hm, hbi, hd⟩ := M.ex
    obtain ⟨od, J⟩ := own_at I ha
    obtain ⟨m, hF⟩ := I.fr
    exact PySem.W.ksp_inv hF I.ok.mod.kin J hm.at_ hm.fn (run_fn (us := [.ref a]) (vs := [.ref a]) F (hr.mono hn) hbi hd passE I (.cons rfl .nil) q), a, dx, fs, rfl, ha, q⟩
/-- x == y, x an instance whose class has __eq__ -/
theorem wo_eqO {y : V} {t : Value} (M : Mt Γ CX0 n C "__eq__" sp []) (hn : n ≤ l) (ty : TyX Γ.K H y t) (nf : PySem.W.notFirst Γ.K C t = true) (ha : H a = some (.ins C dx fs)) (q : sp [.ref a, y] H Q E) : WO (Γ.at l) (compareOp .Eq) (.ref a) y H Q :=
  ⟨fun x y H Q => ∃ a dx fs t, x = .ref a ∧ H a = some (.ins C dx fs) ∧ TyX Γ.K H y t ∧ PySem.W.notFirst Γ.K C t = true ∧ sp [.ref a, y] H Q E, fun X g pins s σ H x y v u Q I rx ry ⟨a, dx, fs, t, ex, ha, ty, nf, q⟩ => by
    subst ex
    obtain rfl : v = Value.ref a := rx
    obtain ⟨P, w, K, mg, base, lv⟩ := Γ
    obtain ⟨h1, h2, h3, h4, h5, _, hr⟩ := g
    simp only at h1 h2 h3 h4 h5 hr
    subst h1 h2 h3 h4 h5
    obtain ⟨f, fd, ps, ds, F, c, hm, hbi, hd⟩ := M.ex
    obtain ⟨od, J⟩ := own_at I ha
    obtain ⟨m, hF⟩ := I.fr
    obtain ⟨P, kx, hP, _⟩ := kit_of I ry ty
    refine PySem.W.cmp_K (op := .Eq) (tb := t) hr.units0 hF I.ok.mod.kin J (kx.ty _ _ I.kIn hP) nf hm.at_ hm.fn ?_
    refine wpAny_mono (run_fn (us := [.ref a, u]) (vs := [.ref a, y]) F (hr.mono hn) hbi hd passE I (.cons rfl (.cons ry .nil)) q) (fun w s' z => ?_) fun _ _ x => x
    obtain ⟨z', H', I', rz, qz⟩ := z
    exact SlX.cmpback rz ⟨z', H', I', rz, qz⟩, a, dx, fs, t, rfl, ha, ty, nf, q⟩
/-- y in x, y not in x -/
theorem wo_inO {y : V} (M : Mt Γ CX0 n C "__contains__" sp []) (hn : n ≤ l) (ha : H a = some (.ins C dx fs)) (q : sp [.ref a, y] H (fun r H' => ∃ b, r = .bl b ∧ Q (.bl b) H') E) : WO (Γ.at l) (compareOp .In) y (.ref a) H Q :=
  ⟨fun y x H Q => ∃ a dx fs, x = .ref a ∧ H a = some (.ins C dx fs) ∧ sp [.ref a, y] H (fun r H' => ∃ b, r = .bl b ∧ Q (.bl b) H') E, fun X g pins s σ H y x u v Q I ry rx ⟨a, dx, fs, ex, ha, q⟩ => by
    subst ex
    obtain rfl : v = Value.ref a := rx
    obtain ⟨P, w, K, mg, base, lv⟩ := Γ
    obtain ⟨h1, h2, h3, h4, h5, _, hr⟩ := g
    simp only at h1 h2 h3 h4 h5 hr
    subst h1 h2 h3 h4 h5
    obtain ⟨f, fd, ps, ds, F, c, hm, hbi, hd⟩ := M.ex
    obtain ⟨od, J⟩ := own_at I ha
    obtain ⟨m, hF⟩ := I.fr
    refine PySem.W.in_K hF I.ok.mod.kin J hm.at_ hm.fn ?_
    refine wpAny_mono (run_fn (us := [.ref a, u]) (vs := [.ref a, y]) F (hr.mono hn) hbi hd passE I (.cons rfl (.cons ry .nil)) q) (fun w s' z => ?_) fun _ _ x => x
    obtain ⟨z', H', I', rz, qz⟩ := z
    obtain ⟨c, rfl, qz⟩ := qz
    obtain rfl : w = Value.bool c := rz
    exact wpAny_truthy_bool ⟨.bl c, H', I', rfl, qz⟩, a, dx, fs, rfl, ha, q⟩
theorem wo_niO {y : V} (M : Mt Γ CX0 n C "__contains__" sp []) (hn : n ≤ l) (ha : H a = some (.ins C dx fs)) (q : sp [.ref a, y] H (fun r H' => ∃ b, r = .bl b ∧ Q (.bl (!b)) H') E) : WO (Γ.at l) (compareOp .NotIn) y (.ref a) H Q :=
  ⟨fun y x H Q => ∃ a dx fs, x = .ref a ∧ H a = some (.ins C dx fs) ∧ sp [.ref a, y] H (fun r H' => ∃ b, r = .bl b ∧ Q (.bl (!b)) H') E, fun X g pins s σ H y x u v Q I ry rx ⟨a, dx, fs, ex, ha, q⟩ => by
    subst ex
    obtain rfl : v = Value.ref a := rx
    obtain ⟨P, w, K, mg, base, lv⟩ := Γ
    obtain ⟨h1, h2, h3, h4, h5, _, hr⟩ := g
    simp only at h1 h2 h3 h4 h5 hr
    subst h1 h2 h3 h4 h5
    obtain ⟨f, fd, ps, ds, F, c, hm, hbi, hd⟩ := M.ex
    obtain ⟨od, J⟩ := own_at I ha
    obtain ⟨m, hF⟩ := I.fr
    refine PySem.W.notIn_K hF I.ok.mod.kin J hm.at_ hm.fn ?_
    refine wpAny_mono (run_fn (us := [.ref a, u]) (vs := [.ref a, y]) F (hr.mono hn) hbi hd passE I (.cons rfl (.cons ry .nil)) q) (fun w s' z => ?_) fun _ _ x => x
    obtain ⟨z', H', I', rz, qz⟩ := z
    obtain ⟨c, rfl, qz⟩ := qz
    obtain rfl : w = Value.bool c := rz
    exact wpAny_truthy_bool ⟨.bl (!c), H', I', rfl, qz⟩, a, dx, fs, rfl, ha, q⟩
end
end G
namespace PySem.W
open PySem PySem.Calls PyProof.Rows
section
variable {prog : Program} {w : World} {A : Around} {E : Value → Shared → Prop} {s : Shared} {K : Frag} {x C f : Addr} {ox : Obj} {od : Option Obj} {b tb : Value}
theorem one_slot : Slot "object" "__ne__" "object.__ne__" :=
  Slot.of (T := "object") (name := "__ne__") (owner := "object") (n := "__ne__") (by rw [typeLookup_type, builtinLookup_eq_fast]; kernel_rfl) (by decide +kernel) (by decide +kernel) (by decide +kernel)
    (by first | exact .inl (by decide +kernel) | exact .inr (by decide +kernel)) (by rw [isSubtype_type]; kernel_rfl)
theorem ifBound_B {M : Model} {name : Str} {id : String} {args : List Value} {Q : Option Value → Shared → Prop} (X : K.In s.heap) (I : InstAt s.heap x ox C od) (hs : findIn K (.ref C) name = some (some (.builtin id)))
    (hb : ∀ self, bindSpecial (.builtin id) self = pure (.builtin id, [self])) (h : wpAny M A (call (.builtin id) (.ref x :: args)) (fun v => Q (some v)) E s) : wpAny M A (callSpecialIfBound? (.ref x) name args) Q E s := by
  simp only [callSpecialIfBound?, bindSpecialIfBound?]
  refine wpAny_holding (wpAny_bind (wpAny_bind (wpAny_bind (I.type.here ((looks_findIn X hs).here ?_)))))
  refine wpAny_bind (wpAny_askSetting (wpAny_ite ?_))
  have fin : wpAny M A (call (.builtin id) ([.ref x] ++ args) >>= fun v => pure (some v)) Q E s := wpAny_bind (wpAny_mono h (fun v s' h' => wpAny_pure h') fun _ _ h' => h')
  split
  · exact wpAny_bind ((Looks.of_pure (hb _)).here (wpAny_pure (by exact fin)))
  · exact wpAny_tryCatch (wpAny_bind ((Looks.of_pure (hb _)).here (wpAny_pure (by exact fin))))
open Builtin in
theorem ne_call {Q : Value → Shared → Prop} (hu : A.units + 1 < cLine) (X : K.In s.heap) (I : InstAt s.heap x ox C od) (hm : mroIn K C (.type "object") = some true)
    (he : findIn K (.ref C) "__eq__" = some (some (.ref f))) (hf : isFn K (.ref f) = true)
    (h : wpAny (model prog w) A.in1 (call (.ref f) [.ref x, b]) (fun r s' => ∃ c, r = .bool c ∧ Q (.bool (!c)) s') E s) : wpAny (model prog w) A (call (.builtin "object.__ne__") [.ref x, b]) Q E s := by
  refine wpAny_call (codeAny_call_builtin one_slot.plain PySem.F.cmpEntry_ne (check_slot (i := "object.__ne__") (owner := "object") (n := "__ne__") PySem.F.cmpKind_ne PySem.F.cmpSplit_ne (I.type.andThen (looks_mroIn X hm)) (PySem.F.cmpArgs_ne _ _) ?_))
  unfold Builtin.«object.__ne__»
  refine wpAny_bind (m := slotArgs "__ne__" 1 _) (wpAny_pure ?_)
  refine wpAny_bind (m := cRoomFor _ _) (wpAny_cRoomFor (by exact hu) ?_)
  refine wpAny_bind (m := callSpecialIfBound? (.ref x) (Str.ofString "__eq__") _) (ifBound_K X I he hf (wpAny_mono h (fun r s' hq => ?_) fun _ _ y => y))
  obtain ⟨c, rfl, hq⟩ := hq
  refine wpAny_bind (m := truthy (.bool c)) (wpAny_truthy_bool ?_)
  exact wpAny_pure hq
theorem ne_K {Q : Value → Shared → Prop} (hu : A.units + 1 < cLine) (X : K.In s.heap) (I : InstAt s.heap x ox C od) (hb : Looks (model prog w) s.heap (typeOf b) tb) (hn : notFirst K C tb = true) (hm : mroIn K C (.type "object") = some true)
    (hs : findIn K (.ref C) "__ne__" = some (some (.builtin "object.__ne__"))) (he : findIn K (.ref C) "__eq__" = some (some (.ref f))) (hf : isFn K (.ref f) = true)
    (h : wpAny (model prog w) A.in1 (call (.ref f) [.ref x, b]) (fun r s' => ∃ c, r = .bool c ∧ Q (.bool (!c)) s') E s) : wpAny (model prog w) A (richCompare .NotEq (.ref x) b) Q E s := by
  have hu0 : A.units < cLine := Nat.lt_of_succ_lt hu
  have one : wpAny (model prog w) A (tryCompare (.ref x) (cmpInfo .NotEq).2.1 b) (fun r s' => ∃ v, r = some v ∧ Q v s') E s := by
    unfold tryCompare
    refine wpAny_bind (ifBound_B X I hs one_slot.bind (wpAny_mono (ne_call hu X I hm he hf (Q := fun v s' => ∃ c, v = .bool c ∧ Q v s') (wpAny_mono h (fun r s' ⟨c, e, q⟩ => ⟨c, e, _, rfl, q⟩) fun _ _ y => y)) (fun v s' hv => ?_) fun _ _ e => e))
    obtain ⟨c, rfl, hq⟩ := hv
    exact wpAny_pure ⟨_, rfl, hq⟩
  unfold richCompare
  simp only [oneThing_ref]
  refine wpAny_holding (wpAny_bind (wpAny_cRoomFor hu0 ?_))
  refine wpAny_bind (I.type.here (wpAny_bind (hb.here ?_)))
  split
  · rename_i q
    have e : subIn K tb (.ref C) = some false := by
      rcases Bool.or_eq_true_iff.mp hn with e | e
      · rw [beq_iff_eq.mp e] at q; simp at q
      · exact beq_iff_eq.mp e
    refine wpAny_bind ((looks_subIn X e).here ?_)
    simp only [Bool.false_eq_true, if_false]
    refine wpAny_bind (wpAny_mono one (fun r s' z => ?_) fun _ _ e => e)
    obtain ⟨v, rfl, hq⟩ := z
    exact wpAny_pure hq
  · refine wpAny_bind (wpAny_pure ?_)
    simp only [Bool.false_eq_true, if_false]
    refine wpAny_bind (wpAny_mono one (fun r s' z => ?_) fun _ _ e => e)
    obtain ⟨v, rfl, hq⟩ := z
    exact wpAny_pure hq
/-- no __iop__ in the class: the binary one -/
theorem noInp {M : Model} {h : Heap} {nm : String} {add : Bool} {cd : ClassData} (X : K.In h) (hc : clsIn K C = some cd) (hl : ∀ c ∈ cd.mro, findIn K c (dunderI nm) = some none) : Looks M h (fillsInplaceSlot (.ref C) nm add) false := by
  unfold fillsInplaceSlot
  have key : ∀ l : List Value, (∀ c ∈ l, findIn K c (dunderI nm) = some none) → Looks M h (l.anyM fun c => do
      let some x ← typeLookup c (dunderI nm) | return false
      if let .type _ := c then return !isSeqSlot (some x)
      if !ownNameWrapper x (dunderI nm) then return true
      if !(← inheritsSeqSlot c (dunderI nm)) then return true
      if add then return (← seqSlot? c (dunderI nm)).isSome
      return false) false := by
    intro l
    induction l with
    | nil => intro _; exact .now
    | cons a r ih =>
      intro hl
      rw [List.anyM_cons]
      refine Looks.andThen (a := false) ?_ ?_
      · exact (looks_findIn X (hl a (.head _))).andThen .now
      · exact ih fun c hc => hl c (.tail _ hc)
  exact ((looks_clsIn X hc).andThen (f := fun cd => pure cd.mro) .now).andThen (key _ hl)
theorem bin1_K {op : Operator} {Q : Value → Shared → Prop} (X : K.In s.heap) (I : InstAt s.heap x ox C od) (hb : Looks (model prog w) s.heap (typeOf b) (.ref C)) (hc : selfFirst K C = true)
    (hs : findIn K (.ref C) (PySem.dunder op.info.2) = some (some (.ref f))) (hf : isFn K (.ref f) = true)
    (h : wpAny (model prog w) A (call (.ref f) [.ref x, b]) (CmpBack Q) E s) : wpAny (model prog w) A (binaryOp1 op.info.2 (.ref x) b) (fun r s' => ∃ v, r = some v ∧ Q v s') E s := by
  obtain ⟨cd, hcd, hm⟩ := any_some hc
  obtain ⟨rest, hm⟩ : ∃ rest, cd.mro = .ref C :: rest := by
    cases q : cd.mro with
    | nil => rw [q] at hm; cases hm
    | cons a r => rw [q] at hm; exact ⟨r, by rw [List.head?_cons] at hm; cases (beq_iff_eq.mp hm); rfl⟩
  unfold binaryOp1
  refine wpAny_bind (I.type.here (wpAny_bind (hb.here (wpAny_bind ((fills_K X hcd hm hs).here ?_)))))
  simp only [beq_self_eq_true, if_true]
  refine wpAny_bind (wpAny_pure ?_)
  simp only [Bool.and_false, Bool.false_eq_true, if_false, Bool.false_and]
  refine wpAny_bind (wpAny_pure ?_)
  simp only [Bool.false_eq_true, if_false]
  refine wpAny_bind (m := tryMethod (.ref x) _ b) ?_
  unfold tryMethod
  refine wpAny_bind (special_fn X I hs (beq_iff_eq.mp hf) (wpAny_mono h (fun v s' hv => ?_) fun _ _ e => e))
  cases v <;> first | exact hv.elim | exact wpAny_pure (wpAny_pure ⟨_, rfl, hv⟩)
theorem inp_K {op : Operator} {cd : ClassData} {Q : Value → Shared → Prop} (X : K.In s.heap) (I : InstAt s.heap x ox C od) (hb : Looks (model prog w) s.heap (typeOf b) (.ref C)) (hc : selfFirst K C = true)
    (hcl : clsIn K C = some cd) (hl : ∀ c ∈ cd.mro, findIn K c (dunderI op.info.2) = some none)
    (hs : findIn K (.ref C) (PySem.dunder op.info.2) = some (some (.ref f))) (hf : isFn K (.ref f) = true)
    (h : wpAny (model prog w) A (call (.ref f) [.ref x, b]) (CmpBack Q) E s) : wpAny (model prog w) A (inplaceOp op (.ref x) b) Q E s := by
  unfold inplaceOp
  refine wpAny_holding (wpAny_bind (I.type.here (wpAny_bind ((noInp X hcl hl).here ?_))))
  simp only [Bool.false_eq_true, if_false]
  refine wpAny_bind (m := binaryOp1 op.info.2 (.ref x) b) (wpAny_mono (bin1_K X I hb hc hs hf h) (fun r s' z => ?_) fun _ _ e => e)
  obtain ⟨v, rfl, hq⟩ := z
  exact wpAny_pure hq
end
end PySem.W
namespace G
open PySem PySem.Spec PyProof.Rows L2
section
variable {Γ : Gm} {X : Cx} {a b C dx dy : Addr} {fs gs : List (Str × V)} {H : Hp} {Q : VK} {n l : Nat} {sp : Sp} {E : XK}
theorem run_in1 {pins : List (Addr × Obj)} {σ : L2.St} {H : Hp} {s : Shared} {Q : VK} {CX : CXT} {k : Nat} {f : Addr} {fd : FuncData} {ps : List Str} {ds us : List Value} {vs dvs : List V} (F : FnOk X.prog X.w X.K X.mg X.base CX k f fd ps sp) (hr : Room (k + 1) X.A) (hb : L2.Binds X.K fd ps ds) (hd : Vals dvs ds) (hx : Passes CX X E)
    (I : Inv X pins σ H s) (r : Vals vs us) (h : sp (vs ++ dvs) H Q E) : wpAny (model X.prog X.w) X.A.in1 (call (.ref f) us) (EP X pins σ Q) X.xe s := by
  have r2 : Vals (vs ++ dvs) (us ++ ds) := r.append hd
  have hl : (us ++ ds).length = ps.length := by rw [← r2.length]; exact F.len _ _ _ _ h
  refine wpAny_call (codeAny_mono (F.run X.A.in1 X.stack s H ⟨us, []⟩ (us ++ ds) (vs ++ dvs) Q E hr.in1 I.env0.in1 (hb s us I.kIn hl) r2 h) fun r s' hq => ?_)
  cases r with
  | error e => exact hx pins σ H s e s' I hq
  | ok fl =>
    cases fl with
    | ret u => exact I.after hq
    | next => exact False.elim hq
    | brk => exact False.elim hq
    | cont => exact False.elim hq
/-- x != y by the class's __eq__ -/
theorem wo_neO {y : V} {t : Value} (k : Kls Γ C) (qn : PySem.W.findIn Γ.K (.ref C) "__ne__" = some (some (.builtin "object.__ne__"))) (M : Mt Γ CX0 n C "__eq__" sp []) (hn : n + 1 ≤ l) (ty : TyX Γ.K H y t) (nf : PySem.W.notFirst Γ.K C t = true) (ha : H a = some (.ins C dx fs))
    (q : sp [.ref a, y] H (fun r H' => ∃ b, r = .bl b ∧ Q (.bl (!b)) H') E) : WO (Γ.at l) (compareOp .NotEq) (.ref a) y H Q :=
  ⟨fun x y H Q => ∃ a dx fs t, x = .ref a ∧ H a = some (.ins C dx fs) ∧ TyX Γ.K H y t ∧ PySem.W.notFirst Γ.K C t = true ∧ sp [.ref a, y] H (fun r H' => ∃ b, r = .bl b ∧ Q (.bl (!b)) H') E, fun X g pins s σ H x y v u Q I rx ry ⟨a, dx, fs, t, ex, ha, ty, nf, q⟩ => by
    subst ex
    obtain rfl : v = Value.ref a := rx
    obtain ⟨P, w, K, mg, base, lv⟩ := Γ
    obtain ⟨h1, h2, h3, h4, h5, _, hr⟩ := g
    simp only at h1 h2 h3 h4 h5 hr
    subst h1 h2 h3 h4 h5
    obtain ⟨f, fd, ps, ds, F, c, hm, hbi, hd⟩ := M.ex
    obtain ⟨od, J⟩ := own_at I ha
    obtain ⟨P, kx, hP, _⟩ := kit_of I ry ty
    refine PySem.W.ne_K (tb := t) (hu_of (hr.mono (Nat.zero_le _))) I.kIn J (kx.ty _ _ I.kIn hP) nf k.cm qn hm.at_ hm.fn ?_
    refine wpAny_mono (run_in1 (us := [.ref a, u]) (vs := [.ref a, y]) F (hr.mono hn) hbi hd passE I (.cons rfl (.cons ry .nil)) q) (fun w s' z => ?_) fun _ _ x => x
    obtain ⟨z', H', I', rz, qz⟩ := z
    obtain ⟨c, rfl, qz⟩ := qz
    obtain rfl : w = Value.bool c := rz
    exact ⟨c, rfl, .bl (!c), H', I', rfl, qz⟩, a, dx, fs, t, rfl, ha, ty, nf, q⟩
/-- x op= y where the class has op alone -/
theorem wi_own {op : Operator} {cd : ClassData} (k : Kls Γ C) (hcl : PySem.W.clsIn Γ.K C = some cd) (hl : ∀ c ∈ cd.mro, PySem.W.findIn Γ.K c (dunderI op.info.2) = some none) (M : Mt Γ CX0 n C (PySem.dunder op.info.2) sp []) (hn : n ≤ l) (ha : H a = some (.ins C dx fs)) (hb : H b = some (.ins C dy gs)) (q : sp [.ref a, .ref b] H Q E) : WI (Γ.at l) op (.ref a) (.ref b) H Q :=
  ⟨fun x y H Q => ∃ a dx fs b dy gs, x = .ref a ∧ y = .ref b ∧ H a = some (.ins C dx fs) ∧ H b = some (.ins C dy gs) ∧ sp [.ref a, .ref b] H Q E, fun X g pins s σ H x y v u Q I rx ry ⟨a, dx, fs, b, dy, gs, ex, ey, ha, hb, q⟩ => by
    subst ex; subst ey
    obtain rfl : v = Value.ref a := rx
    obtain rfl : u = Value.ref b := ry
    obtain ⟨P, w, K, mg, base, lv⟩ := Γ
    obtain ⟨h1, h2, h3, h4, h5, _, hr⟩ := g
    simp only at h1 h2 h3 h4 h5 hr
    subst h1 h2 h3 h4 h5
    obtain ⟨f, fd, ps, ds, F, c, hm, hbi, hd⟩ := M.ex
    obtain ⟨od, J⟩ := own_at I ha
    obtain ⟨od', J'⟩ := own_at I hb
    refine PySem.W.inp_K I.kIn J J'.type k.first hcl hl hm.at_ hm.fn ?_
    refine wpAny_mono (run_fn (us := [.ref a, .ref b]) (vs := [.ref a, .ref b]) F (hr.mono hn) hbi hd passE I (.cons rfl (.cons rfl .nil)) q) (fun w s' z => ?_) fun _ _ x => x
    obtain ⟨z', H', I', rz, qz⟩ := z
    exact SlX.cmpback rz ⟨z', H', I', rz, qz⟩, a, dx, fs, b, dy, gs, rfl, rfl, ha, hb, q⟩
end
end G
/-! sets of texts: set(list), sorted(set); the library has them for ints and for tuples of ints -/
namespace L2
open PySem PySem.Spec PyProof.Rows
def keyS (e : Int × Value) : Str := match e.2 with
  | .str z _ => z
  | _ => Str.empty
def GoodS (P : Program) (w : World) (e : Int × Value) : Prop := ∃ z tk, e.2 = Value.str z tk ∧ e.1 = (strKind P w).hash z
def SetS (P : Program) (w : World) (h : Heap) (a : Addr) (L : List Str) : Prop :=
  ∃ o es ep t, h.get? a = some o ∧ o.ExactSet ∧ o.data = .set es ep t ∧ (∀ e ∈ es.toList, GoodS P w e) ∧ (es.toList.map keyS).Perm L ∧ L.Nodup ∧
    es.size < scanBound ∧ t.fits es.size = true ∧ Ris t.place.toList ∧ (w.params.followText "set-order" = true ∨ t.led = true)
section
variable {P : Program} {w : World} {h h' : Heap} {a : Addr} {L L' : List Str}
theorem SetS.at (R : SetS P w h a L) (k : ∀ o, h.get? a = some o → h'.get? a = some o) : SetS P w h' a L := by
  obtain ⟨o, es, ep, t, ho, r⟩ := R
  exact ⟨o, es, ep, t, k o ho, r⟩
theorem goodS_is {e : Int × Value} (g : GoodS P w e) (k : Str) : (strKind P w).is k e.2 = true ↔ keyS e = k := by
  obtain ⟨z, tk, h1, _⟩ := g
  unfold keyS
  rw [h1]
  constructor
  · intro q
    exact (strKind P w).inj _ _ _ (strKind_is P w z tk) q
  · intro q
    subst q
    exact strKind_is P w z tk
theorem goodS_elems {l : List (Int × Value)} (g : ∀ e ∈ l, GoodS P w e) : ElemsOf (strKind P w) l := fun e he => by
  obtain ⟨z, tk, h1, h2⟩ := g e he
  exact ⟨⟨z, by rw [h1]; exact strKind_is P w z tk, h2⟩, by rw [h1] <;> rfl⟩
end
section
variable {P : Program} {w : World} {A : Around} {E : Value → Shared → Prop} {s : Shared} {a : Addr} {L : List Str}
theorem setS_tail {g : Bool → Sem Unit} (hg : ∀ (b : Bool) (s₁ : Shared) (Q' : Unit → Shared → Prop), Q' () s₁ → wpAny (model P w) A (g b) Q' E s₁)
    {o : Obj} {es : Array (Int × Value)} {ep : Nat} {t : SetTable} (ho : s.heap.get? a = some o) (hex : o.ExactSet) (hd : o.data = .set es ep t)
    {es1 : Array (Int × Value)} {t2 : SetTable} (g1 : ∀ e ∈ es1.toList, GoodS P w e) (p1 : (es1.toList.map keyS).Perm L) (nd : L.Nodup)
    (hb1 : es1.size < scanBound) (hf2 : t2.fits es1.size = true) (hr : Ris t2.place.toList) (hl : w.params.followText "set-order" = true ∨ t2.led = true) {wasDummy : Bool} {R : Option Bool → Shared → Prop}
    (hR : ∀ h', Heap.SameBut a s.heap h' → SetS P w h' a L → R (some true) { s with heap := h' }) :
    wpAny (model P w) A (do
        storeSet a es1 t2
        if (!wasDummy && t2.tooFull) = true then do
            g (relayAll t2 es1 (SetTable.grown es1.size)).2.2
            storeSet a (relayAll t2 es1 (SetTable.grown es1.size)).1 (relayAll t2 es1 (SetTable.grown es1.size)).2.1
            pure (some true)
          else pure (some true)) R E s := by
  refine wpAny_bind (wpAny_storeSet_of ho hd ?_ (fits_of_scanBound hb1))
  have ho1 := store_at (es' := es1) (t' := t2) ho hd
  have sb1 := Heap.SameBut.update s.heap a (Obj.putSet es1 t2)
  split
  · have pm := relayAll_perm t2 es1 (SetTable.grown es1.size)
    have hf3 := relayAll_fits t2 es1 (SetTable.grown es1.size)
    have hr3 := relayAll_ris t2 es1 (SetTable.grown es1.size)
    have hl3 := relayAll_led t2 es1 (SetTable.grown es1.size)
    generalize relayAll t2 es1 (SetTable.grown es1.size) = Z at pm hf3 hr3 hl3 ⊢
    obtain ⟨es2, t3, gave⟩ := Z
    dsimp only at pm hf3 hr3 hl3 ⊢
    have hsz : es2.size = es1.size := by rw [← Array.length_toList, pm.length_eq, Array.length_toList]
    have hb2 : es2.size < scanBound := by rw [hsz]; exact hb1
    refine wpAny_bind (hg _ _ _ ?_)
    refine wpAny_bind (wpAny_storeSet_of ho1 rfl ?_ (fits_of_scanBound hb2))
    have ho2 := store_at (es' := es2) (t' := t3) ho1 rfl
    refine wpAny_pure (hR _ (sb1.trans (Heap.SameBut.update _ a _)) ?_)
    exact ⟨_, es2, _, t3, ho2, hex, rfl, fun e he => g1 e (pm.mem_iff.mp he), (pm.map keyS).trans p1, nd, hb2, hf3, hr3, hl.imp id fun z => by rw [hl3]; exact z⟩
  · exact wpAny_pure (hR _ sb1 ⟨_, es1, _, t2, ho1, hex, rfl, g1, p1, nd, hb1, hf2, hr, hl⟩)
theorem setS_add {k : Str} {tk : Tok} {Q : Bool → Shared → Prop} (R : SetS P w s.heap a L) (room : L.length + 1 < scanBound)
    (hQ : ∀ b h', Heap.SameBut a s.heap h' → SetS P w h' a (if k ∈ L then L else k :: L) → Q b { s with heap := h' }) :
    wpAny (model P w) A (setAddHashed a (.str k tk) ((strKind P w).hash k)) Q E s := by
  obtain ⟨o, es, ep, t, ho, hex, hd, g, pm0, nd, hb, hf, hr, hl⟩ := R
  have hkey : (strKind P w).is k (.str k tk) = true := strKind_is P w k tk
  have hsc : (Value.str k tk).scannable = true := rfl
  have hel : ElemsOf (strKind P w) es.toList := goodS_elems g
  unfold setAddHashed setAddHashedIn
  refine wpAny_holding (wpAny_bind (wpAny_setState_of ho hd hf ?_))
  dsimp only
  rw [byScan_of hsc hb hel]
  simp only [↓reduceIte]
  unfold setAddByScan
  refine wpAny_bind ?_
  refine wpAny_bind (wpAny_rule ?_)
  refine wpAny_bind (wpAny_setScan_of hkey ho hd hf hel ?_)
  cases hfi : List.findIdx? (fun e => (strKind P w).is k e.2) es.toList with
  | some j =>
    dsimp only
    obtain ⟨hj, pj, _⟩ := List.findIdx?_eq_some_iff_getElem.mp hfi
    have hk : k ∈ L := pm0.mem_iff.mp (List.mem_map.mpr ⟨_, List.getElem_mem hj, (goodS_is (g _ (List.getElem_mem hj)) k).mp pj⟩)
    refine wpAny_pure (wpAny_pure ?_)
    have q := hQ false s.heap (Heap.SameBut.refl a s.heap) (by rw [if_pos hk]; exact ⟨o, es, ep, t, ho, hex, hd, g, pm0, nd, hb, hf, hr, hl⟩)
    exact q
  | none =>
    dsimp only
    have hnk : k ∉ L := fun z => by
      obtain ⟨e, he, q⟩ := List.mem_map.mp (pm0.mem_iff.mpr z)
      have c := List.findIdx?_eq_none_iff.mp hfi e he
      rw [(goodS_is (g e he) k).mpr q] at c
      cases c
    have hgw : ∀ (b : Bool) {s₁ : Shared} {Q' : Unit → Shared → Prop}, Q' () s₁ → wpAny (model P w) A (match b with | true => rule "set.scan.the-table-gave-way" | false => pure ()) Q' E s₁ :=
      fun b s₁ Q' q => by cases b <;> first | exact wpAny_pure q | exact wpAny_rule q
    have pm := layNew_perm t es ((strKind P w).hash k) (.str k tk)
    have hf1 := layNew_fits t es ((strKind P w).hash k) (.str k tk)
    have hr1 := layNew_ris t es ((strKind P w).hash k) (.str k tk) hr
    have hl1 := layNew_led t es ((strKind P w).hash k) (.str k tk)
    generalize layNew t es ((strKind P w).hash k) (.str k tk) = Z at pm hf1 hr1 hl1 ⊢
    obtain ⟨es1, t1, wasDummy, gave⟩ := Z
    dsimp only at pm hf1 hr1 hl1 ⊢
    rw [Array.toList_push] at pm
    have pc : es1.toList.Perm (((strKind P w).hash k, Value.str k tk) :: es.toList) := pm.trans (List.perm_append_singleton _ _)
    have pk : (es1.toList.map keyS).Perm (k :: L) := (pc.map keyS).trans (List.Perm.cons k pm0)
    have g1 : ∀ e ∈ es1.toList, GoodS P w e := fun e he => by
      rcases List.mem_cons.mp (pc.mem_iff.mp he) with z | z
      · rw [z]; exact ⟨k, tk, rfl, rfl⟩
      · exact g e z
    have nd1 : (k :: L).Nodup := List.nodup_cons.mpr ⟨hnk, nd⟩
    have hsz : es1.size = L.length + 1 := by
      have := pk.length_eq
      rw [List.length_map, Array.length_toList, List.length_cons] at this
      exact this
    have hb1 : es1.size < scanBound := by rw [hsz]; exact room
    have hled : w.params.followText "set-order" = true ∨ t1.led = true := hl.imp id fun z => by rw [hl1]; exact z
    have fin : ∀ h', Heap.SameBut a s.heap h' → SetS P w h' a (k :: L) → Q true { s with heap := h' } := fun h' sb r => by
      have q := hQ true h' sb
      rw [if_neg hnk] at q
      exact q r
    refine wpAny_bind (hgw _ ?_)
    split
    · refine wpAny_bind ?_
      rw [hashByValue_scannable 8 hsc]
      refine wpAny_pure ?_
      refine setS_tail ?_ ho hex hd g1 pk nd1 hb1 ?_ ?_ ?_ ?_
      · intro b s₁ Q' q; cases b <;> first | exact wpAny_pure q | exact wpAny_rule q
      · first | (split <;> first | exact hf1 | exact SetTable.fits_plain_off hf1) | exact hf1
      · first | (split <;> exact hr1) | exact hr1
      · first | (split <;> exact hled) | exact hled
      · intro h' sb r; dsimp only; exact wpAny_pure (fin h' sb r)
    · refine wpAny_bind (wpAny_pure ?_)
      simp only [↓reduceIte]
      refine setS_tail ?_ ho hex hd g1 pk nd1 hb1 hf1 hr1 hled ?_
      · intro b s₁ Q' q; cases b <;> first | exact wpAny_pure q | exact wpAny_rule q
      · intro h' sb r; dsimp only; exact wpAny_pure (fin h' sb r)
/-- the texts met so far, each once -/
def metS : List Str → List Str
  | [] => []
  | z :: r => if z ∈ metS r then metS r else z :: metS r
theorem metS_mem {z : Str} : ∀ {l : List Str}, z ∈ metS l ↔ z ∈ l
  | [] => Iff.rfl
  | y :: r => by
    unfold metS
    split
    · rename_i h
      rw [metS_mem, List.mem_cons]
      exact ⟨.inr, fun q => q.elim (fun e => by rw [e]; exact metS_mem.mp h) id⟩
    · rw [List.mem_cons, List.mem_cons, metS_mem]
theorem metS_nodup : ∀ {l : List Str}, (metS l).Nodup
  | [] => List.nodup_nil
  | y :: r => by
    unfold metS
    split
    · exact metS_nodup
    · rename_i h
      exact List.nodup_cons.mpr ⟨h, metS_nodup⟩
theorem metS_len : ∀ {l : List Str}, (metS l).length ≤ l.length
  | [] => Nat.le_refl _
  | y :: r => by
    unfold metS
    have := metS_len (l := r)
    split
    · exact Nat.le_succ_of_le this
    · exact Nat.succ_le_succ this
theorem setS_update {I : Addr} {fp wr : List Addr} {G : Array GenState → Array GenState → Prop} {n : Nat} {Pv : Nat → Value → Prop} {St : Nat → Shared → Prop} {R : Result → Shared → Prop}
    (W : WalksS P w A.in1 I fp wr G n Pv St) (S : Addr) (hSf : S ∉ fp) (ns : List Str) (hn : n = ns.length) (hb : ns.length + 1 < scanBound) (hval : ∀ i v, Pv i v → ∃ k t, ns[i]? = some k ∧ v = .str k t) :
    ∀ (k i : Nat) (s : Shared), n - i = k → i ≤ n → St i s → SetS P w s.heap S (metS (ns.take i).reverse) →
      (∀ s', Moved (S :: wr) G s s' → SetS P w s'.heap S (metS ns.reverse) → R (.ok (.ret .none)) s') →
      codeAny (model P w) A (.builtin "set.update.loop" ⟨[.ref S, .ref I], []⟩) R s := by
  have hSw : S ∉ wr := fun h => hSf (W.sub _ h)
  have hsub : ∀ b ∈ wr, b ∈ S :: wr := fun b hb => List.mem_cons_of_mem _ hb
  intro k
  induction k with
  | zero =>
    intro i s hk' hi hst hS hR
    have hin : i = n := by omega
    subst hin
    refine codeAny_builtin F.entry_set_update_loop ?_
    rw [Around.under_plainId F.plain_set_update_loop _]
    show wpAny _ A.in1 (pyNext (.ref I) >>= _) _ _ s
    refine wpAny_bind (W.done s _ _ hst fun s' hm => ?_)
    show wpAny _ A.in1 (ret Value.none) _ _ s'
    have e : ns.take i = ns := List.take_of_length_le (by omega)
    rw [e] at hS
    exact wpAny_pure (hR s' (hm.mono hsub) (hS.at fun o e => hm.heap S o hSw e))
  | succ k ih =>
    intro i s hk' hi hst hS hR
    have hlt : i < n := by omega
    refine codeAny_builtin F.entry_set_update_loop ?_
    rw [Around.under_plainId F.plain_set_update_loop _]
    show wpAny _ A.in1 (pyNext (.ref I) >>= _) _ _ s
    refine wpAny_bind (W.item i s _ _ hlt hst fun v s' hP hst' hm => ?_)
    obtain ⟨z, t, hz, rfl⟩ := hval i v hP
    have hS' : SetS P w s'.heap S (metS (ns.take i).reverse) := hS.at fun o e => hm.heap S o hSw e
    show wpAny _ A.in1 (holding [Value.str z t] (setAdd S (.str z t)) >>= _) _ _ s'
    refine wpAny_bind (wpAny_holding ?_)
    unfold setAdd
    refine wpAny_holding ?_
    refine wpAny_bind ((strKind P w).pyHash (k := z) (strKind_is _ _ _ _) ?_)
    refine setS_add (s := { s' with toks := s'.toks + 1 }) hS' (by have := metS_len (l := (ns.take i).reverse); rw [List.length_reverse, List.length_take] at this; omega) fun b h' hsb hS2 => ?_
    have hS3 : SetS P w h' S (metS (ns.take (i + 1)).reverse) := by
      rw [List.take_add_one, hz]
      simp only [Option.toList_some, List.reverse_append, List.reverse_cons, List.reverse_nil, List.nil_append, List.singleton_append]
      exact hS2
    refine wpAny_pure ⟨plainId_quiet F.plain_set_update_loop _, ih (i + 1) _ (by omega) hlt (W.frame _ s' _ _ hst' (Nat.le_succ _) fun b hb o e => ?_) hS3 fun s'' hm'' hS'' => ?_⟩
    · rw [hsb.2 b (fun h : b = S => hSf (by rw [← h]; exact hb))]; exact e
    · refine hR s'' (Moved.trans W.gtrans ((hm.mono hsub).then_heap (Nat.le_succ _) fun b o hb e => ?_) hm'') hS''
      rw [hsb.2 b (fun h : b = S => hb (by rw [h]; exact List.mem_cons_self))]; exact e
theorem setS_fresh {h : Heap} {a : Addr} (ho : h.get? a = some { cls := .type "set", dict := none, data := .set #[] 0 (.fresh 0 0 (!w.params.followText "set-order")) }) : SetS P w h a [] :=
  ⟨_, #[], 0, _, ho, ⟨rfl, rfl, rfl⟩, rfl, (fun e he => by simp at he), List.Perm.refl _, List.nodup_nil, (by decide), (by rfl), List.Pairwise.nil, by
    show _ ∨ (!w.params.followText "set-order") = true
    cases w.params.followText "set-order"
    · exact .inr rfl
    · exact .inl rfl⟩
end
end L2
namespace L2
open PySem PySem.Spec PyProof.Rows
section
variable {P : Program} {w : World} {A : Around} {E : Value → Shared → Prop} {s : Shared}
theorem call_set_strs {l : Addr} {items : Array Value} (ns : List Str) {Q : Value → Shared → Prop} (hh : A.handled = none) (hl : s.heap.IsList l items) (hit : StrsAre items.toList ns) (hb : ns.length + 1 < scanBound)
    (h : ∀ (h' : Heap) (tk : Nat), SetS P w h' s.heap.objs.size (metS ns.reverse) → (∀ b o, s.heap.get? b = some o → h'.get? b = some o) → Q (.ref s.heap.objs.size) { s with heap := h', toks := tk }) :
    wpAny (model P w) A (call (.type "set") [.ref l]) Q E s := by
  have hisz : items.size = ns.length := by
    have q := hit.length
    rw [Array.length_toList] at q
    exact q
  obtain ⟨c, tl, hmro⟩ := F.called_set.mro
  have hmade := F.called_set.made
  have hsub := F.called_set.sub
  refine wpAny_call (codeAny_of_tree ?_)
  show wpAny _ _ (callAny (.type "set") _) _ _ _
  refine wpAny_pure ⟨Code.quiet_builtin _ (by decide +kernel), codeAny_builtin F.entry_type_call ?_⟩
  rw [Around.under_plain (weight_type_call_type "set" [.ref l] []) rfl]
  have h1 := F.called_set.notType
  have h2 := F.called_set.canCreate
  have hct := F.typeCall_set_1 (.ref l)
  repeat (any_goals (first | assumption | wp_step))
  refine codeAny_mono (code_set_led1 (.ref l) (E := E) (Q₁ := fun obj s₁ => obj = .ref s.heap.objs.size ∧ s₁ = { s with heap := s.heap.push { cls := .type "set", dict := none, data := .set #[] 0 (.fresh 0 0 (!w.params.followText "set-order")) } }) ⟨rfl, rfl⟩) fun r s₁ hr => ?_
  cases r with
  | error e => exact hr
  | ok fl =>
    cases fl with
    | ret obj =>
      obtain ⟨rfl, rfl⟩ := hr
      have hS : (s.heap.push { cls := .type "set", dict := none, data := .set #[] 0 (.fresh 0 0 (!w.params.followText "set-order")) }).get? s.heap.objs.size = some { cls := .type "set", dict := none, data := .set #[] 0 (.fresh 0 0 (!w.params.followText "set-order")) } := Heap.get?_push_size _ rfl
      have hT : Shared.TypeIs { s with heap := s.heap.push { cls := .type "set", dict := none, data := .set #[] 0 (.fresh 0 0 (!w.params.followText "set-order")) } } (.ref s.heap.objs.size) "set" := ⟨_, hS, rfl⟩
      have hli := F.called_set.init.lookup
      have hbi := F.called_set.init.bind (.ref s.heap.objs.size)
      repeat (any_goals (first | assumption | wp_step))
      refine codeAny_mono (codeAny_call_builtin (R := wants (fun r s₂ => r = .none ∧ ∃ h' tk, s₂ = { s with heap := h', toks := tk } ∧ SetS P w h' s.heap.objs.size (metS ns.reverse) ∧
          (∀ b o, s.heap.get? b = some o → h'.get? b = some o)) E) F.called_set.init.plain F.entry_set_init (check_set_init_1 hT ?_)) fun r₂ s₂ hr₂ => ?_
      · obtain ⟨ol, hol, hcl, nl, hdl⟩ := hl
        obtain ⟨ocls, odict, odata, oslots⟩ := ol
        simp only at hcl hdl
        subst hcl; subst hdl
        have hol' : (s.heap.push { cls := .type "set", dict := none, data := .set #[] 0 (.fresh 0 0 (!w.params.followText "set-order")) }).get? l = some { cls := .type "list", dict := odict, data := .seq items nl, slots := oslots } := Heap.get?_push_of_some _ hol
        have hsls := F.sub_list_set
        have hslf := F.sub_list_frozenset
        have hne : (Value.type "list" == Value.type "dict") = false := by decide
        have hl1 : (s.heap.push { cls := .type "set", dict := none, data := .set #[] 0 (.fresh 0 0 (!w.params.followText "set-order")) }).IsList l items := ⟨_, hol', rfl, nl, rfl⟩
        unfold Builtin.«set.__init__» noKeywords Builtin.Frozenset.updateFrom
        generalize hPI : pyIter = PI
        wp_walk
        subst hPI
        refine wpAny_pyIter_list hl1 ?_
        refine wpAny_bind (wpAny_runValue ?_)
        have hlS : l < s.heap.objs.size := Heap.lt_size hol
        have hh3 : A.in1.in1.in1.handled = none := by simp [hh]
        have hneI : l ≠ (s.heap.push { cls := .type "set", dict := none, data := .set #[] 0 (.fresh 0 0 (!w.params.followText "set-order")) }).objs.size := by
          rw [Heap.size_push]; exact Nat.ne_of_lt (Nat.lt_succ_of_lt hlS)
        have hSf : s.heap.objs.size ∉ [(s.heap.push { cls := .type "set", dict := none, data := .set #[] 0 (.fresh 0 0 (!w.params.followText "set-order")) }).objs.size, l] := by
          rw [Heap.size_push]; simp only [List.mem_cons, List.mem_singleton, List.not_mem_nil, or_false, not_or]
          exact ⟨Nat.ne_of_lt (Nat.lt_succ_self _), Nat.ne_of_gt hlS⟩
        have hval : ∀ (i : Nat) (v : Value), items[i]? = some v → ∃ k t, ns[i]? = some k ∧ v = .str k t := fun i v hv => by
          have q : items.toList[i]? = some v := by rw [Array.getElem?_toList]; exact hv
          have hi : i < ns.length := by rw [← hisz]; rw [← Array.length_toList]; exact (List.getElem?_eq_some_iff.mp q).1
          obtain ⟨t, ht⟩ := hit.get i _ (List.getElem?_eq_getElem hi)
          exact ⟨_, t, List.getElem?_eq_getElem hi, Option.some.inj (q.symm.trans ht)⟩
        refine setS_update ((Walks.list hh3 _ l hneI items).toS) s.heap.objs.size hSf ns hisz hb hval (items.size - 0) 0 _ (by omega) (Nat.zero_le _)
          ⟨⟨_, Heap.get?_push_size _ rfl, rfl, rfl⟩, (hl1.push _)⟩ (setS_fresh (Heap.get?_push_of_some _ hS)) ?hR
        case hR =>
          intro s' hm hS'
          have old : ∀ b o, s.heap.get? b = some o → s'.heap.get? b = some o := fun b o e => by
            have hb' : b < s.heap.objs.size := Heap.lt_size e
            refine hm.heap b o (fun z => ?_) (Heap.get?_push_of_some _ (Heap.get?_push_of_some _ e))
            rcases List.mem_cons.mp z with z | z
            · exact Nat.ne_of_lt hb' z
            · rw [Heap.size_push] at z
              exact Nat.ne_of_lt (Nat.lt_succ_of_lt hb') (List.mem_singleton.mp z)
          obtain ⟨h', g2, d', tk', os'⟩ := s'
          have eg : g2 = s.gens := hm.gens
          have ed : d' = s.drawn := hm.drawn
          have eo : os' = s.os := hm.os
          subst eg; subst ed; subst eo
          show wpAny _ _ _ _ _ _
          refine wpAny_pure ?_
          show wpAny _ _ (ret Value.none) _ _ _
          exact wpAny_pure ⟨rfl, h', tk', rfl, hS', old⟩
      · cases r₂ with
        | error e => exact hr₂
        | ok fl₂ =>
          cases fl₂ with
          | ret r =>
            obtain ⟨rfl, h', tk, rfl, hS', hk'⟩ := hr₂
            repeat (any_goals (first | assumption | wp_step))
            exact h _ _ hS' hk'
          | _ => exact hr₂.elim
    | _ => exact hr.elim
end
end L2
namespace L2
open PySem PySem.Spec PyProof.Rows
/-! ### sorted -/
theorem strs_of {P : Program} {w : World} : ∀ (l : List (Int × Value)), (∀ e ∈ l, GoodS P w e) → StrsAre (l.map (·.2)) (l.map keyS)
  | [], _ => .nil
  | e :: r, h => by
    obtain ⟨z, tk, h1, _⟩ := h e (.head _)
    have ih := strs_of r fun x hx => h x (.tail _ hx)
    have h2 : keyS e = z := by unfold keyS; rw [h1]
    rw [List.map_cons, List.map_cons, h1, h2]
    exact .cons z tk ih
theorem strs_perm {vs us : List Value} {xs : List Str} (h : StrsAre us xs) (p : vs.Perm us) : ∃ ys, StrsAre vs ys ∧ ys.Perm xs := by
  have key : ∀ v ∈ vs, ∃ z t, v = Value.str z t := fun v hv => by
    obtain ⟨i, hi⟩ := List.mem_iff_getElem?.mp (p.mem_iff.mp hv)
    have hl : i < xs.length := by rw [← h.length]; exact (List.getElem?_eq_some_iff.mp hi).1
    obtain ⟨t, ht⟩ := h.get i _ (List.getElem?_eq_getElem hl)
    exact ⟨_, t, Option.some.inj (hi.symm.trans ht)⟩
  have mk : ∀ l : List Value, (∀ v ∈ l, ∃ z t, v = Value.str z t) → StrsAre l (l.map fun v => keyS (0, v)) := by
    intro l
    induction l with
    | nil => intro _; exact .nil
    | cons v r ih =>
      intro hv
      obtain ⟨z, t, rfl⟩ := hv v (.head _)
      exact .cons z t (ih fun x hx => hv x (.tail _ hx))
  have un : ∀ {l : List Value} {ys : List Str}, StrsAre l ys → l.map (fun v => keyS (0, v)) = ys := by
    intro l ys q
    induction q with
    | nil => rfl
    | cons z t _ ih => rw [List.map_cons, ih]; rfl
  exact ⟨_, mk vs key, by have := p.map (fun v => keyS (0, v)); rw [un h] at this; exact this⟩
section
variable {P : Program} {w : World} {A : Around} {E : Value → Shared → Prop} {s : Shared} {a : Addr} {L : List Str}
theorem sorted_setS {Q : Value → Shared → Prop} (R : SetS P w s.heap a L) (hh : A.handled = none) (h64 : L.length < 64)
    (hQ : ∀ s' p (out : Array Value) (c : Nat) (ys : List Str), (∀ b o, s.heap.get? b = some o → s'.heap.get? b = some o) → s'.gens = s.gens → s'.os = s.os → s.heap.objs.size ≤ p →
      s'.heap.get? p = some (seqObj "list" out c) → StrsAre out.toList ys → ys.Perm L → sortedS ys = true → Q (.ref p) s') :
    wpAny (model P w) A (call (.builtin "sorted") [.ref a]) Q E s := by
  obtain ⟨o, es, ep, t, ho, hex, hd, g, pm0, nd, hb, hf, hr, hl⟩ := R
  refine Calls.call_function_entry kind_sorted plain_sorted entry_sorted (args_sorted1 _) ?_
  unfold Builtin.«sorted»
  refine wpAny_bind (m := checkCount "sorted" 1 1 _) (wpAny_pure ?_)
  refine wpAny_bind (collect_set (A := A.in1) hh ⟨o, ho, hex.1, hd⟩ hf hb hr hl fun s1 vs k1 hz g1 o1 pm => ?_)
  obtain ⟨xs, hI, px⟩ := strs_perm (strs_of es.toList g) pm
  have hvl : vs.length = L.length := by rw [hI.length, px.length_eq, pm0.length_eq]
  refine wpAny_bind (wpAny_newList ?_ (by rw [hvl, sizeLine_eq]; omega))
  have hoL : (s1.heap.push (seqObj "list" vs.toArray 0)).get? s1.heap.objs.size = some (seqObj "list" vs.toArray 0) := Heap.get?_push_size _ rfl
  refine wpAny_bind (wpAny_holding (wpAny_call_entry slot_list_sort ⟨_, hoL, rfl⟩ entry_list_sort (list_sort_treeK strKind_oneLt hoL hI.keysOf (fun v₁ v₂ rest e => keyKind_strs (by rw [← e]; exact hI)) (by rw [hvl]; exact h64) fun st' hp hs => ⟨_, rfl, ?_⟩) (args_list_sort _)))
  obtain ⟨ys, b1, b2, b3⟩ := sorted_out_str hI hp hs
  obtain ⟨c, hc⟩ := sortedHeap_at (vs := vs) (out := (arrOf st').map (·.2)) hoL
  refine wpAny_pure ⟨_, rfl, hQ _ s1.heap.objs.size _ c ys (fun b u e => ?_) g1 o1 hz hc b1 (b2.trans (px.trans pm0)) b3⟩
  have q := k1 b u e
  have hlt := Heap.lt_size q
  show (sortedHeap (s1.heap.push (seqObj "list" vs.toArray 0)) s1.heap.objs.size vs ((arrOf st').map (·.2))).get? b = some u
  rw [sortedHeap_old (Nat.ne_of_lt hlt) (by rw [size_push']; exact Nat.lt_succ_of_lt hlt)]
  exact Heap.get?_push_of_some _ q
end
/-! ### the rules -/
/-- the set of texts at a -/
def SetSO (P : Program) (w : World) (a : Addr) (L : List Str) : HO := .ext fun h => SetS P w h a L
theorem setSO_new {P : Program} {w : World} {H : Hp} {h : Heap} {a : Addr} {L : List Str} (R : SetS P w h a L) : ObjOk P w H h a (SetSO P w a L) := by
  have ⟨o, es, ep, t, ho, r⟩ := R
  refine ⟨R, ⟨o, ho⟩, fun h1 h2 p k => ?_⟩
  exact SetS.at (P := P) (w := w) p k
section
variable {X : Cx}
def rSetS (K : PySem.W.Frag) (P : Program) (w : World) : List V → Hp → VK → Prop := fun xs H Q => ∃ (l : Addr) (ns : List Str), xs = [V.ref l] ∧ SqL K H l (ns.map V.str) ∧ ns.length < 3000 ∧ ∀ a, H a = none → Q (.ref a) (upd H a (SetSO P w a (metS ns.reverse)))
theorem cr_setS (hc : X.calm = true) : CallR X (.type "set") (rSetS X.K X.prog X.w) := by
  intro pins s σ H xs us Q I r h
  obtain ⟨l, ns, rfl, hl, hf, q⟩ := h
  rw [Vals.ref1 r]
  obtain ⟨its, rv, pl, hz⟩ := I.list hl
  have hn : H s.heap.objs.size = none := I.hok.fresh (Nat.le_refl _)
  refine call_set_strs (P := X.prog) (w := X.w) ns (I.ok.hd hc) pl.isList (by simpa using rv.strs) (by unfold scanBound; omega) fun h' tk R k => ?_
  exact ⟨.ref s.heap.objs.size, upd H s.heap.objs.size (SetSO X.prog X.w s.heap.objs.size (metS ns.reverse)), I.laid (t' := tk) k (Nat.le_refl _) (setSO_new R), rfl, q _ hn⟩
/-- sorted(set) -/
def rSortSet (P : Program) (w : World) : List V → Hp → VK → Prop := fun vs H Q => ∃ (a : Addr) (L : List Str), vs = [V.ref a] ∧ H a = some (SetSO P w a L) ∧ L.length < 64 ∧
  ∀ (ys : List Str) (p : Addr), ys.Perm L → sortedS ys = true → H p = none → Q (.ref p) (upd H p (.lst (ys.map V.str)))
theorem cr_sortSet (hc : X.calm = true) : CallR X (.builtin "sorted") (rSortSet X.prog X.w) := by
  intro pins s σ H vs us Q I r h
  obtain ⟨a, L, rfl, ha, hf, q⟩ := h
  have R : SetS X.prog X.w s.heap a L := (I.hok a _ ha).1
  rw [Vals.ref1 r]
  refine sorted_setS R (I.ok.hd hc) hf fun s' p out c ys k g o hp hg hout pm pw => ?_
  have hlen : (ys.map V.str).length ≤ sizeLine := by rw [List.length_map, sizeLine_eq, pm.length_eq]; omega
  have hn : H p = none := I.hok.fresh hp
  have hv : Vals (ys.map V.str) out.toList := vals_of_strs hout
  have J : Inv X pins σ (upd H p (.lst (ys.map V.str))) { s with heap := s'.heap, gens := s'.gens, drawn := s'.drawn, toks := s'.toks } :=
    I.call (ch := []) (Un.laid k hp hn) (I.hok.laid k hp ⟨hlen, out.toList, c, hv, hg⟩) (by rw [g]; exact I.bare) (fun _ z => nomatch z)
  have e : s' = { s with heap := s'.heap, gens := s'.gens, drawn := s'.drawn, toks := s'.toks } := by
    cases s'
    cases s
    cases o
    rfl
  rw [e]
  exact ⟨.ref p, _, J, rfl, q ys p pm pw hn⟩
end
end L2
namespace G
open PySem PySem.Spec PyProof.Rows L2
section
variable {Γ : Gm} {H : Hp} {Q : VK} {l a : Addr} {ns L : List Str}
theorem wc_setS (m : SqL Γ.K H l (ns.map V.str)) (hl : ns.length < 3000) (q : ∀ a, H a = none → Q (.ref a) (upd H a (SetSO Γ.P Γ.w a (metS ns.reverse)))) : WC Γ (.type "set") [.ref l] H Q :=
  ⟨rSetS Γ.K Γ.P Γ.w, fun X g => (by have := cr_setS (X := X) g.calm; rw [g.K, g.P, g.w] at this; exact this), l, ns, rfl, m, hl, q⟩
theorem wc_sortSet (m : H a = some (SetSO Γ.P Γ.w a L)) (hl : L.length < 64) (q : ∀ (ys : List Str) (p : Addr), ys.Perm L → sortedS ys = true → H p = none → Q (.ref p) (upd H p (.lst (ys.map V.str)))) : WC Γ (.builtin "sorted") [.ref a] H Q :=
  ⟨rSortSet Γ.P Γ.w, fun X g => (by have := cr_sortSet (X := X) g.calm; rw [g.P, g.w] at this; exact this), a, L, rfl, m, hl, q⟩
theorem wc_sortS (m : SqL Γ.K H l (ns.map V.str)) (hl : ns.length < 64) (q : ∀ (ys : List Str) (p : Addr), ys.Perm ns → sortedS ys = true → H p = none → Q (.ref p) (upd H p (.lst (ys.map V.str)))) : WC Γ (.builtin "sorted") [.ref l] H Q :=
  ⟨rSortedS Γ.K, fun X g => (by have := cr_sortedS (X := X); rw [g.K] at this; exact this), l, ns, rfl, m, hl, q⟩
end
end G
/-! trees of formulas -/
namespace G
open PySem PySem.Spec PyProof.Rows L2
inductive Tr where
  | z (w : Str)
  | st (k : Str) (d : Int)
  | mk (k : Str)
  | one (w : Str) (a : Tr)
  | two (w : Str) (a b : Tr)
deriving DecidableEq
namespace Tr
def size : Tr → Nat
  | z _ => 1
  | st _ _ => 1
  | mk _ => 1
  | one _ a => size a + 1
  | two _ a b => size a + size b + 1
/-- how deep -/
def dep : Tr → Nat
  | z _ => 1
  | st _ _ => 1
  | mk _ => 1
  | one _ a => dep a + 1
  | two _ a b => max (dep a) (dep b) + 1
def word : Tr → Str
  | z w => w
  | st _ _ => "step"
  | mk _ => "marked"
  | one w _ => w
  | two w _ _ => w
def subs : Tr → List Tr
  | one _ a => [a]
  | two _ a b => [a, b]
  | _ => []
/-- the names behind a word, from the left -/
def told (w : Str) : Tr → List Str
  | z _ => []
  | st k _ => if (Str.ofString "step") = w then [k] else []
  | mk k => if (Str.ofString "marked") = w then [k] else []
  | one _ a => told w a
  | two _ a b => told w a ++ told w b
def steps : Tr → Nat
  | z _ => 0
  | st _ _ => 1
  | mk _ => 0
  | one _ a => steps a
  | two _ a b => steps a + steps b
/-- one behind the other, n times -/
def grp (t : Tr) : Nat → Tr
  | 0 => z "here"
  | 1 => t
  | n + 2 => two "then" (grp t (n + 1)) t
/-- a walk's way back -/
def back : Tr → Tr
  | st k d => st k (-d)
  | two w a b => two w (back b) (back a)
  | t => t
/-- the words that make names -/
def okw (w : Str) : Prop := w ≠ "step" ∧ w ≠ "marked" ∧ PyData.strOk w = true
/-- no word that is not one -/
def ok : Tr → Prop
  | z w => okw w
  | st k _ => PyData.strOk k = true
  | mk k => PyData.strOk k = true
  | one w a => okw w ∧ ok a
  | two w a b => okw w ∧ ok a ∧ ok b
def walk : Tr → Prop
  | z w => w = "here"
  | st _ _ => True
  | two w a b => w = "then" ∧ walk a ∧ walk b
  | _ => False
end Tr
/-- the tree stands at p -/
def TrP (K : PySem.W.Frag) (H : Hp) : Tr → Addr → Prop
  | .z w, p => SqT K H p [.str w]
  | .st k d, p => SqT K H p [.str "step", .str k, .int d]
  | .mk k, p => SqT K H p [.str "marked", .str k]
  | .one w a, p => ∃ q, SqT K H p [.str w, .ref q] ∧ TrP K H a q
  | .two w a b, p => ∃ q r, SqT K H p [.str w, .ref q, .ref r] ∧ TrP K H a q ∧ TrP K H b r
section
variable {E : Hv} {K : PySem.W.Frag} {H H' : Hp}
theorem sqt_loc {MC : Addr → Prop} {p : Addr} {xs : List V} (k : ∀ a o, H a = some o → a ∈ ([] : List Addr) ∨ Imm MC o → H' a = some o) (h : SqT K H p xs) : SqT K H' p xs := by
  rcases h with (h | ⟨o, h⟩) | h
  · exact .inl (.inl (k _ _ h (.inr trivial)))
  · exact .inl (.inr ⟨o, k _ _ h (.inr trivial)⟩)
  · exact .inr h
theorem TrP.loc {MC : Addr → Prop} : ∀ (t : Tr) (p : Addr), Loc MC [] fun H => TrP K H t p
  | .z w, p => fun H H' k h => sqt_loc k h
  | .st _ _, p => fun H H' k h => sqt_loc k h
  | .mk _, p => fun H H' k h => sqt_loc k h
  | .one w a, p => fun H H' k ⟨q, h, ha⟩ => ⟨q, sqt_loc k h, TrP.loc a q H H' k ha⟩
  | .two w a b, p => fun H H' k ⟨q, r, h, ha, hb⟩ => ⟨q, r, sqt_loc k h, TrP.loc a q H H' k ha, TrP.loc b r H H' k hb⟩
theorem TrP.same {t : Tr} {p : Addr} (h : TrP K H t p) (s : Same H H') : TrP K H' t p := TrP.loc (MC := fun _ => True) t p H H' (fun a o e _ => s a o e) h
def trF (t : Tr) (p : Addr) : PF E := ⟨fun H => TrP E.K H t p, TrP.loc t p⟩
/-- what stands in the tuple -/
def Its (K : PySem.W.Frag) (H : Hp) : Tr → List V → Prop
  | .z w, xs => xs = [.str w]
  | .st k d, xs => xs = [.str "step", .str k, .int d]
  | .mk k, xs => xs = [.str "marked", .str k]
  | .one w a, xs => ∃ q, xs = [.str w, .ref q] ∧ TrP K H a q
  | .two w a b, xs => ∃ q r, xs = [.str w, .ref q, .ref r] ∧ TrP K H a q ∧ TrP K H b r
theorem TrP.its {t : Tr} {p : Addr} (h : TrP K H t p) : ∃ xs, SqT K H p xs ∧ Its K H t xs := by
  cases t with
  | z w => exact ⟨_, h, rfl⟩
  | st k d => exact ⟨_, h, rfl⟩
  | mk k => exact ⟨_, h, rfl⟩
  | one w a => obtain ⟨q, h, ha⟩ := h; exact ⟨_, h, q, rfl, ha⟩
  | two w a b => obtain ⟨q, r, h, ha, hb⟩ := h; exact ⟨_, h, q, r, rfl, ha, hb⟩
theorem Its.word {t : Tr} {xs : List V} (h : Its K H t xs) : xs[0]? = some (.str t.word) := by
  cases t with
  | z w => cases h; rfl
  | st k d => cases h; rfl
  | mk k => cases h; rfl
  | one w a => obtain ⟨q, rfl, _⟩ := h; rfl
  | two w a b => obtain ⟨q, r, rfl, _⟩ := h; rfl
/-! ### equality -/
def Tr.data : Tr → PyData
  | .z w => .tuple [.str w]
  | .st k d => .tuple [.str "step", .str k, .int d]
  | .mk k => .tuple [.str "marked", .str k]
  | .one w a => .tuple [.str w, a.data]
  | .two w a b => .tuple [.str w, a.data, b.data]
theorem TrP.dp : ∀ {t : Tr} {p : Addr}, TrP K H t p → Dp K H (.ref p) t.data
  | .z w, p, h => .tup h (.cons (.str _) .nil)
  | .st k d, p, h => .tup h (.cons (.str _) (.cons (.str _) (.cons (.int _) .nil)))
  | .mk k, p, h => .tup h (.cons (.str _) (.cons (.str _) .nil))
  | .one w a, p, ⟨q, h, ha⟩ => .tup h (.cons (.str _) (.cons (TrP.dp ha) .nil))
  | .two w a b, p, ⟨q, r, h, ha, hb⟩ => .tup h (.cons (.str _) (.cons (TrP.dp ha) (.cons (TrP.dp hb) .nil)))
theorem Tr.depth : ∀ t : Tr, t.data.depth = t.dep
  | .z w => by simp [Tr.data, PyData.depth, PyData.depthAll, Tr.dep]
  | .st k d => by simp [Tr.data, PyData.depth, PyData.depthAll, Tr.dep]
  | .mk k => by simp [Tr.data, PyData.depth, PyData.depthAll, Tr.dep]
  | .one w a => by simp [Tr.data, PyData.depth, PyData.depthAll, Tr.dep, Tr.depth a]
  | .two w a b => by simp [Tr.data, PyData.depth, PyData.depthAll, Tr.dep, Tr.depth a, Tr.depth b]
theorem Tr.lay : ∀ {t : Tr}, t.ok → t.data.canLay0 = true
  | .z w, h => by simp [Tr.data, PyData.canLay0, PyData.canLayAll0]; exact h.2.2
  | .st k d, h => by simp [Tr.data, PyData.canLay0, PyData.canLayAll0]; exact ⟨by decide +kernel, h⟩
  | .mk k, h => by simp [Tr.data, PyData.canLay0, PyData.canLayAll0]; exact ⟨by decide +kernel, h⟩
  | .one w a, h => by simp [Tr.data, PyData.canLay0, PyData.canLayAll0]; exact ⟨h.1.2.2, Tr.lay h.2⟩
  | .two w a b, h => by simp [Tr.data, PyData.canLay0, PyData.canLayAll0]; exact ⟨h.1.2.2, Tr.lay h.2.1, Tr.lay h.2.2⟩
theorem Tr.shaped {t : Tr} (h : t.ok) (d : t.dep ≤ 64) : SeqAt.shaped t.data = true := by
  unfold SeqAt.shaped
  rw [Tr.lay h, Tr.depth]
  simp [d]
theorem Tr.e1 (t : Tr) (k : Str) : PyData.eqv (.str k) t.data = false := by cases t <;> simp [Tr.data, PyData.eqv]
theorem Tr.e2 (t : Tr) (k : Str) : PyData.eqv t.data (.str k) = false := by cases t <;> simp [Tr.data, PyData.eqv]
theorem Tr.e3 (t : Tr) (k : Int) : PyData.eqv (.int k) t.data = false := by cases t <;> simp [Tr.data, PyData.eqv]
theorem Tr.e4 (t : Tr) (k : Int) : PyData.eqv t.data (.int k) = false := by cases t <;> simp [Tr.data, PyData.eqv]
theorem sk (a b : Str) : PyData.eqv (.str a) (.str b) = (a == b) := by simp [PyData.eqv]
theorem ik (a b : Int) : PyData.eqv (.int a) (.int b) = (a == b) := by simp [PyData.eqv]
theorem tk (a b : List PyData) : PyData.eqv (.tuple a) (.tuple b) = PyData.eqvAll a b := by simp [PyData.eqv]
theorem Tr.eqv_iff : ∀ a b : Tr, PyData.eqv a.data b.data = true ↔ a = b := by
  intro a
  induction a with
  | z w => intro b; cases b <;> simp [Tr.data, tk, sk, ik, PyData.eqvAll, Tr.e1, Tr.e2, Tr.e3, Tr.e4]
  | st k d => intro b; cases b <;> simp [Tr.data, tk, sk, ik, PyData.eqvAll, Tr.e1, Tr.e2, Tr.e3, Tr.e4]
  | mk k => intro b; cases b <;> simp [Tr.data, tk, sk, ik, PyData.eqvAll, Tr.e1, Tr.e2, Tr.e3, Tr.e4]
  | one w a ih => intro b; cases b <;> simp [Tr.data, tk, sk, ik, PyData.eqvAll, Tr.e1, Tr.e2, Tr.e3, Tr.e4, ih]
  | two w a b ih1 ih2 => intro c; cases c <;> simp [Tr.data, tk, sk, ik, PyData.eqvAll, Tr.e1, Tr.e2, Tr.e3, Tr.e4, ih1, ih2]
theorem Tr.eqv (a b : Tr) : PyData.eqv a.data b.data = decide (a = b) := by
  have h := Tr.eqv_iff a b
  by_cases e : a = b
  · rw [decide_eq_true e]; exact h.mpr e
  · rw [decide_eq_false e]
    cases q : PyData.eqv a.data b.data with
    | false => rfl
    | true => exact absurd (h.mp q) e
/-- == of two trees -/
theorem wo_eqT {Γ : Gm} {Q : VK} {s t : Tr} {p q : Addr} (hp : TrP Γ.K H s p) (hq : TrP Γ.K H t q) (os : s.ok) (ot : t.ok) (ds : s.dep ≤ 64) (dt : t.dep ≤ 64) (k : Q (.bl (decide (s = t))) H) : WO Γ (compareOp .Eq) (.ref p) (.ref q) H Q :=
  ⟨rEqD Γ.K, fun X g => (by have := op_eqD (X := X) (Nat.lt_of_le_of_lt (Nat.le_refl _) g.hu64); rw [g.K] at this; exact this), _, _, hp.dp, hq.dp, Tr.shaped os ds, Tr.shaped ot dt, by rw [Tr.eqv]; exact k⟩
theorem wo_neT {Γ : Gm} {Q : VK} {s t : Tr} {p q : Addr} (hp : TrP Γ.K H s p) (hq : TrP Γ.K H t q) (os : s.ok) (ot : t.ok) (ds : s.dep ≤ 64) (dt : t.dep ≤ 64) (k : Q (.bl (!decide (s = t))) H) : WO Γ (compareOp .NotEq) (.ref p) (.ref q) H Q :=
  ⟨rNeD Γ.K, fun X g => (by have := op_neD (X := X) (Nat.lt_of_le_of_lt (Nat.le_refl _) g.hu64); rw [g.K] at this; exact this), _, _, hp.dp, hq.dp, Tr.shaped os ds, Tr.shaped ot dt, by rw [Tr.eqv]; exact k⟩
/-- isinstance -/
theorem wc_isi {Γ : Gm} {Q : VK} {x c : V} {t u : Value} {b : Bool} (k : ClsV c u) (ty : TyX Γ.K H x t) (e : PySem.W.kitOne Γ.K t u = some b) (q : Q (.bl b) H) : WC Γ (.builtin "isinstance") [x, c] H Q :=
  ⟨rIsi Γ.K, fun X g => (by have := call_isi (X := X); rw [g.K] at this; exact this), x, c, t, u, b, rfl, k, ty, e, q⟩
/-- a tuple's type, whatever it is -/
theorem sqt_ty {p : Addr} {xs : List V} (h : SqT K H p xs) : TyX K H (.ref p) (.type "tuple") := by
  rcases h with (h | ⟨o, h⟩) | h
  · exact .base (.tup h)
  · exact .fTuple h
  · obtain ⟨o, its, n, e, c, _⟩ := h
    exact .kTuple e c
theorem wc_all {Γ : Gm} {Q : VK} {a : Addr} {bs : List Bool} (m : SqL Γ.K H a (bs.map V.bl)) (q : Q (.bl (bs.all id)) H) : WC Γ (.builtin "all") [.ref a] H Q :=
  ⟨rAll Γ.K, fun X g => (by have := cr_all (X := X) g.calm; rw [g.K] at this; exact this), a, bs, rfl, m, q⟩
theorem wc_sum {Γ : Gm} {Q : VK} {a : Addr} {ns : List Int} (m : SqL Γ.K H a (ns.map V.int)) (q : Q (.int ns.sum) H) : WC Γ (.builtin "sum") [.ref a] H Q :=
  ⟨rSum Γ.K, fun X g => (by have := cr_sum (X := X) g.calm; rw [g.K] at this; exact this), a, ns, rfl, m, q⟩
/-- a sign within a text -/
theorem wo_in1 {Γ : Gm} {Q : VK} {z : Str} {c : Nat} (q : Q (.bl (decide (c ∈ z.cps.toList))) H) : WO Γ (compareOp .In) (.str ⟨#[c]⟩) (.str z) H Q :=
  ⟨_, fun X g => op_in_str, _, _, rfl, rfl, by
    have h := StrLaws.found_one z c
    rw [show (!(Builtin.Str.occurrences z ⟨#[c]⟩ 0 z.length 1).isEmpty) = decide (c ∈ z.cps.toList) from h]
    exact q⟩
theorem br_t {p : Prop} [Decidable p] {A B : Prop} (h : p) (a : A) : br (decide p) A B := by rw [decide_eq_true h]; exact a
theorem br_f {p : Prop} [Decidable p] {A B : Prop} (h : ¬ p) (b : B) : br (decide p) A B := by rw [decide_eq_false h]; exact b
theorem br_nt {p : Prop} [Decidable p] {A B : Prop} (h : p) (b : B) : br (!decide p) A B := by rw [decide_eq_true h]; exact b
theorem br_nf {p : Prop} [Decidable p] {A B : Prop} (h : ¬ p) (a : A) : br (!decide p) A B := by rw [decide_eq_false h]; exact a
/-- what stands behind the word -/
inductive Rest (K : PySem.W.Frag) (H : Hp) : List V → List Tr → Prop
  | nil : Rest K H [] []
  | str {z : Str} {r : List V} {ts : List Tr} : Rest K H r ts → Rest K H (.str z :: r) ts
  | int {i : Int} {r : List V} {ts : List Tr} : Rest K H r ts → Rest K H (.int i :: r) ts
  | ref {p : Addr} {t : Tr} {r : List V} {ts : List Tr} : TrP K H t p → Rest K H r ts → Rest K H (.ref p :: r) (t :: ts)
/-- trees side by side -/
inductive TrPs (K : PySem.W.Frag) (H : Hp) : List Tr → List Addr → Prop
  | nil : TrPs K H [] []
  | cons {t : Tr} {p : Addr} {ts : List Tr} {ps : List Addr} : TrP K H t p → TrPs K H ts ps → TrPs K H (t :: ts) (p :: ps)
def isRef : V → Bool
  | .ref _ => true
  | _ => false
theorem TrP.rest {t : Tr} {p : Addr} (h : TrP K H t p) : ∃ r, SqT K H p (.str t.word :: r) ∧ Rest K H r t.subs ∧ r.length ≤ 2 := by
  cases t with
  | z w => exact ⟨_, h, .nil, by simp⟩
  | st k d => exact ⟨_, h, .str (.int .nil), by simp⟩
  | mk k => exact ⟨_, h, .str .nil, by simp⟩
  | one w a => obtain ⟨q, h, ha⟩ := h; exact ⟨_, h, .ref ha .nil, by simp⟩
  | two w a b => obtain ⟨q, r, h, ha, hb⟩ := h; exact ⟨_, h, .ref ha (.ref hb .nil), by simp⟩
theorem Rest.at {r : List V} {ts : List Tr} (h : Rest K H r ts) : ∀ {i : Nat} {x : V}, r[i]? = some x → (∃ z, x = .str z) ∨ (∃ j, x = .int j) ∨ ∃ p t, x = .ref p ∧ TrP K H t p := by
  induction h with
  | nil => intro i x e; simp at e
  | str _ ih => intro i x e; cases i with
    | zero => simp at e; exact .inl ⟨_, e.symm⟩
    | succ i => exact ih e
  | int _ ih => intro i x e; cases i with
    | zero => simp at e; exact .inr (.inl ⟨_, e.symm⟩)
    | succ i => exact ih e
  | ref hp _ ih => intro i x e; cases i with
    | zero => simp at e; exact .inr (.inr ⟨_, _, e.symm, hp⟩)
    | succ i => exact ih e
theorem Rest.ps {r : List V} {ts : List Tr} (h : Rest K H r ts) : ∃ ps : List Addr, r.filter isRef = ps.map V.ref ∧ TrPs K H ts ps := by
  induction h with
  | nil => exact ⟨[], rfl, .nil⟩
  | str _ ih => exact ih
  | int _ ih => exact ih
  | @ref p t r ts hp _ ih =>
    obtain ⟨ps, e, h⟩ := ih
    refine ⟨p :: ps, ?_, .cons hp h⟩
    rw [List.filter_cons_of_pos rfl, e]
    rfl
theorem TrPs.same {ts : List Tr} {ps : List Addr} (h : TrPs K H ts ps) (s : Same H H') : TrPs K H' ts ps := by
  induction h with
  | nil => exact .nil
  | cons a _ ih => exact .cons (a.same s) ih
theorem TrPs.len {ts : List Tr} {ps : List Addr} (h : TrPs K H ts ps) : ps.length = ts.length := by
  induction h with
  | nil => rfl
  | cons _ _ ih => rw [List.length_cons, List.length_cons, ih]
theorem TrPs.get {ts : List Tr} {ps : List Addr} (h : TrPs K H ts ps) : ∀ {i : Nat} {p : Addr}, ps[i]? = some p → ∃ t, ts[i]? = some t ∧ TrP K H t p := by
  induction h with
  | nil => intro i p e; simp at e
  | cons a _ ih =>
    intro i p e
    cases i with
    | zero => simp at e; subst e; exact ⟨_, rfl, a⟩
    | succ i => exact ih e
theorem Tr.subs_dep {t s : Tr} (h : s ∈ t.subs) : s.dep < t.dep := by
  cases t with
  | one w a => simp [Tr.subs] at h; subst h; simp [Tr.dep]
  | two w a b => simp [Tr.subs] at h; rcases h with rfl | rfl <;> simp [Tr.dep] <;> omega
  | _ => simp [Tr.subs] at h
theorem Tr.subs_ok {t s : Tr} (o : t.ok) (h : s ∈ t.subs) : s.ok := by
  cases t with
  | one w a => simp [Tr.subs] at h; subst h; exact o.2
  | two w a b =>
    simp [Tr.subs] at h
    rcases h with rfl | rfl
    · exact o.2.1
    · exact o.2.2
  | _ => simp [Tr.subs] at h
/-- the name that stands at the tree's own word -/
def Tr.top (w : Str) : Tr → List Str
  | .st k _ => if (Str.ofString "step") = w then [k] else []
  | .mk k => if (Str.ofString "marked") = w then [k] else []
  | _ => []
theorem Tr.told_all (w : Str) : ∀ t : Tr, t.top w ++ (t.subs.map (Tr.told w)).flatten = t.told w
  | .z _ => rfl
  | .st _ _ => by simp [Tr.top, Tr.subs, Tr.told]
  | .mk _ => by simp [Tr.top, Tr.subs, Tr.told]
  | .one _ a => by simp [Tr.top, Tr.subs, Tr.told]
  | .two _ a b => by simp [Tr.top, Tr.subs, Tr.told]
theorem Tr.told_take (w : Str) (t : Tr) (n : Nat) : (t.top w ++ ((t.subs.take n).map (Tr.told w)).flatten).length ≤ (t.told w).length := by
  rw [← Tr.told_all w t]
  have h : t.subs.map (Tr.told w) = (t.subs.take n).map (Tr.told w) ++ (t.subs.drop n).map (Tr.told w) := by rw [← List.map_append, List.take_append_drop]
  rw [h, List.flatten_append]
  simp only [List.length_append]
  omega
theorem Tr.top_hit {w : Str} {t : Tr} {p : Addr} (hw : w = "step" ∨ w = "marked") (ok : t.ok) (hp : TrP K H t p) (h : t.word = w) : ∃ k, (∃ xs, SqT K H p xs ∧ xs[1]? = some (.str k)) ∧ t.top w = [k] := by
  cases t with
  | z v =>
    obtain rfl : v = w := h
    rcases hw with rfl | rfl
    · exact absurd rfl ok.1
    · exact absurd rfl ok.2.1
  | one v a =>
    obtain rfl : v = w := h
    rcases hw with rfl | rfl
    · exact absurd rfl ok.1.1
    · exact absurd rfl ok.1.2.1
  | two v a b =>
    obtain rfl : v = w := h
    rcases hw with rfl | rfl
    · exact absurd rfl ok.1.1
    · exact absurd rfl ok.1.2.1
  | st k d => exact ⟨k, ⟨_, hp, rfl⟩, by subst h; simp [Tr.top, Tr.word]⟩
  | mk k => exact ⟨k, ⟨_, hp, rfl⟩, by subst h; simp [Tr.top, Tr.word]⟩
theorem Tr.top_miss {w : Str} {t : Tr} (hw : w = "step" ∨ w = "marked") (ok : t.ok) (h : ¬ t.word = w) : t.top w = [] := by
  cases t with
  | st k d => exact if_neg h
  | mk k => exact if_neg h
  | _ => rfl
theorem Tr.steps_step {t : Tr} (ok : t.ok) (h : t.word = "step") : ((t.steps : Nat) : Int) = 1 := by
  cases t with
  | z v => exact absurd h ok.1
  | one v a => exact absurd h ok.1.1
  | two v a b => exact absurd h ok.1.1
  | st k d => rfl
  | mk k => exact absurd h (show ¬ (Str.ofString "marked" = Str.ofString "step") by decide +kernel)
theorem Tr.steps_sum {t : Tr} (ok : t.ok) (h : ¬ t.word = "step") : (t.subs.map fun s => ((Tr.steps s : Nat) : Int)).sum = ((t.steps : Nat) : Int) := by
  cases t with
  | st k d => exact absurd rfl h
  | z v => rfl
  | mk k => rfl
  | one v a => simp [Tr.subs, Tr.steps]
  | two v a b => simp [Tr.subs, Tr.steps]
/-! ### instances that hold a tree -/
def spInit (C : Addr) : Sp := fun vs H Q _ => ∃ (x dx : Addr) (v : V), vs = [.ref x, v] ∧ H x = some (.ins C dx []) ∧ Q .non (upd H x (.ins C dx [("form", v)]))
theorem made_same {x dx : Addr} {o o2 o3 : HO} (hx : H x = none) (hd : H dx = none) : Same H (upd (upd (upd H dx o) x o2) x o3) := fun a u e => by
  rw [upd_ne (ne_of_none e hx), upd_ne (ne_of_none e hx), upd_ne (ne_of_none e hd)]; exact e
/-- a new instance that holds v -/
theorem made {C : Addr} {v : V} {Q : VK} {E : XK} (q : ∀ c dx H', Same H H' → H' c = some (.ins C dx [("form", v)]) → Q (.ref c) H') :
    ∀ x dx, H x = none → H dx = none → dx ≠ x → spInit C (.ref x :: ([v] ++ [])) (upd (upd H dx (.own x)) x (.ins C dx [])) (fun v H2 => v = .non ∧ Q (.ref x) H2) E :=
  fun x dx hx hd _ => ⟨x, dx, v, rfl, upd_same, rfl, q x dx _ (made_same hx hd) upd_same⟩
/-- the instance of C at a holds the tree t -/
def LkP (K : PySem.W.Frag) (H : Hp) (C : Addr) (t : Tr) (a : Addr) : Prop := ∃ dx p, H a = some (.ins C dx [("form", .ref p)]) ∧ TrP K H t p
theorem LkP.same {C : Addr} {t : Tr} {a : Addr} (h : LkP K H C t a) (s : Same H H') : LkP K H' C t a := by
  obtain ⟨dx, p, e, h⟩ := h
  exact ⟨dx, p, s _ _ e, h.same s⟩
theorem TrP.fr {b : Addr} {xs : List V} {t : Tr} {p : Addr} (h : TrP K H t p) (f : Fr [b] H H') (hb : H b = some (.lst xs)) : TrP K H' t p :=
  TrP.loc (MC := fun _ => True) t p H H' (fun a o e i => f a o (fun z => by
    obtain rfl : a = b := List.mem_singleton.mp z
    rw [hb] at e; cases e
    rcases i with i | i
    · exact absurd i List.not_mem_nil
    · exact i) e) h
/-- what the text has of a class that holds a tree -/
structure KF (Γ : Gm) (x : Str) (C : Addr) : Prop where
  k : Kls Γ C
  na : NoAttr Γ.K C "form"
  mg : Γ.mg x = some (.ref C)
  me : PySem.W.kitOne Γ.K (.ref C) (.ref C) = some true
  tp : PySem.W.kitOne Γ.K (.type "tuple") (.ref C) = some false
  qn : PySem.W.findIn Γ.K (.ref C) "__ne__" = some (some (.builtin "object.__ne__"))
theorem KF.ty {Γ : Gm} {x : Str} {C a dx : Addr} {fs : List (Str × V)} (f : KF Γ x C) (h : H a = some (.ins C dx fs)) : TyX Γ.K H (.ref a) (.ref C) := .base (.ins h f.k.cls f.k.ca f.k.cn f.k.ct f.k.cm)
theorem KF.gc {Γ : Gm} {x : Str} {C : Addr} (f : KF Γ x C) : ∃ u, Γ.mg x = some u ∧ RelV (.ref C) u := ⟨_, f.mg, rfl⟩
/-- e.form -/
theorem wa_form {Γ : Gm} {l : Nat} {x : Str} {C a dx : Addr} {v : V} {Q : VK} (f : KF Γ x C) (h : H a = some (.ins C dx [("form", v)])) (q : Q v H) : WA (Γ.at l) "form" (.ref a) H Q := wa_fld (Γ := Γ.at l) f.k.cls f.na h (by rfl) q
end
end G
/-! list(text): the library has it for lists, tuples, dicts -/
namespace PySem.W
open PySem PyProof.Rows
section
variable {prog : Program} {w : World} {A : Around} {E : Value → Shared → Prop} {s : Shared}
theorem call_list_txt {Q : Value → Shared → Prop} (hh : A.handled = none) (x : Str) (t : Tok) (hn : x.cps.size ≤ sizeLine)
    (hQ : ∀ h' tk acc' c', (∀ b o, s.heap.get? b = some o → h'.get? b = some o) → h'.get? s.heap.objs.size = some { cls := .type "list", dict := none, data := .seq acc' c', slots := #[] } → ItemsOf (SignAt x) acc' x.cps.size → Q (.ref s.heap.objs.size) { s with heap := h', toks := tk }) :
    wpAny (model prog w) A (call (.type "list") [.str x t]) Q E s := by
  refine callType_codes (Q₁ := fun obj s₁ => obj = .ref s.heap.objs.size ∧ s₁ = { s with heap := s.heap.push { cls := .type "list", data := .seq #[] } }) PySem.F.called_list (PySem.F.typeCall_list_1 _) PySem.F.entry_list_init
    (code_list_new _ ⟨rfl, rfl⟩) fun obj s₁ h₁ => ?_
  obtain ⟨rfl, rfl⟩ := h₁
  have hS : (s.heap.push { cls := .type "list", data := .seq #[] }).get? s.heap.objs.size = some { cls := .type "list", data := .seq #[] } := Heap.get?_push_size _ rfl
  refine ⟨⟨_, hS, rfl⟩, PySem.F.args_list_init_2 _ _, ?_⟩
  show wpAny _ _ (do let old ← Builtin.List.listItems (.ref s.heap.objs.size); Builtin.List.listUpdate (.ref s.heap.objs.size) (fun _ => #[]); letGo old.toList.reverse; Builtin.List.listExtendWith (.ref s.heap.objs.size) (.str x t) .none) _ _ _
  refine wpAny_bind ?_
  unfold Builtin.List.listItems
  refine wpAny_bind (wpAny_seqItems hS rfl (wpAny_pure ?_))
  show wpAny _ _ (updateSeq s.heap.objs.size (fun _ => #[]) >>= fun _ => letGo (#[] : Array Value).toList.reverse >>= fun _ => Builtin.List.listExtendWith (.ref s.heap.objs.size) (.str x t) .none) _ _ _
  refine wpAny_bind (wpAny_updateSeq hS rfl ?_)
  have hS₂ := Heap.get?_update_self (Obj.mapSeq (fun _ => (#[] : Array Value))) hS rfl
  have sz : ((s.heap.push { cls := .type "list", data := .seq #[] }).update s.heap.objs.size (Obj.mapSeq (fun _ => (#[] : Array Value)))).objs.size = s.heap.objs.size + 1 := by rw [Heap.size_update, Heap.size_push]
  have oth : ∀ b o, s.heap.get? b = some o → ((s.heap.push { cls := .type "list", data := .seq #[] }).update s.heap.objs.size (Obj.mapSeq (fun _ => (#[] : Array Value)))).get? b = some o :=
    fun b o e => (Heap.get?_update_other _ _ (Nat.ne_of_gt (Heap.lt_size e))).trans (Heap.get?_push_of_some _ e)
  generalize ((s.heap.push { cls := .type "list", data := .seq #[] }).update s.heap.objs.size (Obj.mapSeq (fun _ => (#[] : Array Value)))) = H at hS₂ sz oth ⊢
  refine wpAny_bind (wpAny_letGo ?_)
  unfold Builtin.List.listExtendWith
  refine wpAny_bind (wpAny_typeOf (T := "str") (v := .str x t) rfl ?_)
  have h1 : Builtin.List.listSameRef (.ref s.heap.objs.size) (.str x t) = false := rfl
  have h2 : (Value.type "str" == Value.type "list") = false := by decide
  have h3 : (Value.type "str" == Value.type "tuple") = false := by decide
  simp only [h1, h2, h3, Bool.or_false, Bool.false_eq_true, if_false]
  refine wpAny_bind (wpAny_pyIter_str fun o St W hst => ?_)
  refine wpAny_bind (wpAny_holding ?_)
  unfold Builtin.List.listLengthHint
  refine wpAny_bind (wpAny_specialOf (T := "str") (v := .str x t) rfl PySem.F.str_len ?_)
  wp_delta
  refine wpAny_bind (wpAny_isInstance (T := "str") (v := .str x t) (b := true) rfl (by rw [isSubtype_type]; kernel_rfl) ?_)
  show wpAny _ A.in1.in1 (typeOf (Value.str x t) >>= _) _ _ _
  refine wpAny_bind (wpAny_typeOf (T := "str") (v := .str x t) rfl ?_)
  refine wpAny_pure ?_
  rw [if_neg (by decide)]
  have hSf : s.heap.objs.size ∉ [H.objs.size] := fun hm => by rw [List.mem_singleton.mp hm] at sz; exact absurd sz (Nat.ne_of_lt (Nat.lt_succ_self _))
  refine wpAny_pure ⟨plainId_quiet PySem.F.plain_extend_loop _, codeAny_extend_loopS (W A.in1.in1 (by simpa using hh)).toS hn _ hSf _ x.cps.size 0 _ _ _ rfl (Nat.zero_le _) hst (Heap.get?_push_of_some _ hS₂) (ItemsOf.nil _) fun s' acc' c' hm hS' hacc => ?_⟩
  rw [Moved.eq_with hm]
  refine ⟨rfl, hQ s'.heap s'.toks acc' c' (fun b o e => hm.heap b o (fun hmem => ?_) (Heap.get?_push_of_some _ (oth b o e))) hS' hacc⟩
  have hlt := Heap.lt_size e
  rcases List.mem_cons.mp hmem with h | h
  · exact absurd hlt (h ▸ Nat.lt_irrefl _)
  · rw [List.mem_singleton.mp h, sz] at hlt; exact absurd hlt (Nat.not_lt.mpr (Nat.le_succ _))
end
end PySem.W
namespace G
open PySem PySem.Spec PyProof.Rows L2
/-- a text's sgs -/
def sgs (z : Str) : List V := z.cps.toList.map fun c => V.str ⟨#[c]⟩
def rLstS : List V → Hp → VK → Prop := fun xs H Q => ∃ z : Str, xs = [.str z] ∧ z.length ≤ sizeLine ∧ ∀ p, H p = none → Q (.ref p) (upd H p (.lst (sgs z)))
theorem cr_listS {X : Cx} (hc : X.calm = true) : CallR X (.type "list") rLstS := by
  intro pins s σ H xs us Q I r h
  obtain ⟨z, rfl, hz, q⟩ := h
  obtain ⟨u, rfl, rx⟩ := vals1 r
  obtain ⟨t, rfl⟩ := rx
  refine PySem.W.call_list_txt (I.ok.hd hc) z t hz fun h' tk acc c kp e hi => ?_
  have hn : H s.heap.objs.size = none := I.hok.fresh (Nat.le_refl _)
  have hv : Vals (sgs z) acc.toList := vals_of_at (by have h1 : acc.toList.length = acc.size := Array.length_toList; have h2 := hi.1; rw [h1, h2]; unfold sgs; rw [List.length_map]; exact Array.length_toList) fun j x u hx hu => by
    obtain ⟨c0, t0, hc0, rfl⟩ := hi.2 j u (by rw [← Array.getElem?_toList]; exact hu)
    unfold sgs at hx
    rw [List.getElem?_map, Array.getElem?_toList, hc0] at hx
    obtain rfl := (Option.some.inj hx).symm
    exact ⟨t0, rfl⟩
  have hl : (sgs z).length ≤ sizeLine := by unfold sgs; rw [List.length_map, Array.length_toList]; exact hz
  exact ⟨.ref s.heap.objs.size, upd H s.heap.objs.size (.lst (sgs z)), I.laid (t' := tk) kp (Nat.le_refl _) (show ObjOk X.prog X.w _ h' _ (.lst (sgs z)) from ⟨hl, acc.toList, c, hv, by simpa using e⟩), rfl, q _ hn⟩
section
variable {Γ : Gm} {H : Hp} {Q : VK} {E : Hv} {H0 : Hp} {S0 : List Addr} {F : List (PF E)} {R R' : List (RS E)}
theorem wc_listS {z : Str} (hz : z.length ≤ sizeLine) (q : ∀ p, H p = none → Q (.ref p) (upd H p (.lst (sgs z)))) : WC Γ (.type "list") [.str z] H Q :=
  ⟨rLstS, fun X g => cr_listS g.calm, z, rfl, hz, q⟩
/-- one sign -/
def sg1 (c : Nat) : Str := ⟨#[c]⟩
theorem joinL1 : ∀ l : List Nat, TL.joinL [] (l.map fun c => [c]) = l
  | [] => rfl
  | [c] => rfl
  | c :: d :: r => by
    have ih := joinL1 (d :: r)
    show [c] ++ ([] ++ TL.joinL [] ((d :: r).map fun c => [c])) = c :: d :: r
    rw [ih]
    rfl
theorem jn1 (l : List Nat) : Txt.join (Str.ofString "") (l.map sg1) = ⟨l.toArray⟩ := by
  have h := SX.join_S [] (l.map fun c => [c])
  rw [joinL1, List.map_map] at h
  exact h
theorem let_mem {c : Nat} (h : c ∈ (Str.ofString "abcdefghijklmnopqrstuvwxyz").cps.toList) : 97 ≤ c ∧ c ≤ 122 := by
  rw [show (Str.ofString "abcdefghijklmnopqrstuvwxyz").cps.toList = List.range' 97 26 from by decide +kernel, List.mem_range'_1] at h
  omega
theorem let_len : (Str.ofString "abcdefghijklmnopqrstuvwxyz").length = 26 := by decide +kernel
theorem let_nd : (Str.ofString "abcdefghijklmnopqrstuvwxyz").cps.toList.Nodup := by decide +kernel
theorem sg_sum : ∀ l : List Nat, ((l.map sg1).map (·.length)).sum = l.length
  | [] => rfl
  | c :: r => by
    have ih := sg_sum r
    rw [List.map_cons, List.map_cons, List.sum_cons, ih, List.length_cons]
    show 1 + r.length = r.length + 1
    omega
theorem app_list (a b : Str) : (a ++ b).cps.toList = a.cps.toList ++ b.cps.toList := Array.toList_append
/-- what is picked of a text's signs -/
theorem picked {z : Str} {xs r : List V} (h : (xs ++ r).Perm (sgs z)) (nd : z.cps.toList.Nodup) : ∃ cs : List Nat, xs = cs.map (fun c => V.str (sg1 c)) ∧ cs.Nodup ∧ ∀ c ∈ cs, c ∈ z.cps.toList := by
  let of : V → Nat := fun v => match v with
    | .str y => y.cps.getD 0 0
    | _ => 0
  have hof : ∀ c : Nat, of (V.str (sg1 c)) = c := fun c => rfl
  have h2 := h.map of
  unfold sgs at h2
  rw [List.map_map, show (of ∘ fun c => V.str (⟨#[c]⟩ : Str)) = id from rfl, List.map_id, List.map_append] at h2
  refine ⟨xs.map of, ?_, ?_, fun c hc => h2.mem_iff.mp (List.mem_append_left _ hc)⟩
  · rw [List.map_map]
    refine (List.map_id xs).symm.trans (List.map_congr_left fun x hx => ?_)
    have hx2 := h.mem_iff.mp (List.mem_append_left _ hx)
    unfold sgs at hx2
    obtain ⟨c, _, rfl⟩ := List.mem_map.mp hx2
    rfl
  · exact (List.nodup_append.mp (h2.nodup_iff.mpr nd)).1
/-! ### the law's draws -/
/-- the box: what is left of the great number, the mixed number, how often was drawn; n draws are still allowed -/
def Box (b : Addr) (n : Nat) (H : Hp) : Prop := ∃ i j k : Int, H b = some (.lst [.int i, .int j, .int k]) ∧ 0 ≤ j ∧ j < 2 ^ 62 ∧ 0 ≤ k ∧ k + n ≤ 2 ^ 40
theorem Box.less {b : Addr} {n m : Nat} (h : Box b n H) (l : m ≤ n) : Box b m H := by
  obtain ⟨i, j, k, h, a, c, d, e⟩ := h
  exact ⟨i, j, k, h, a, c, d, by omega⟩
theorem Box.cell {b : Addr} {n : Nat} (h : Box b n H) : ∃ xs, H b = some (.lst xs) := by
  obtain ⟨i, j, k, h, _⟩ := h
  exact ⟨_, h⟩
def boxR (b : Addr) (n : Nat) : RS E := ⟨[b], Box b n, fun H H' k ⟨i, j, l, h, r⟩ => ⟨i, j, l, k _ _ h (.inl (.head _)), r⟩, false⟩
/-- a draw, or several -/
theorem SS.draw {b : Addr} {m n : Nat} {H' : Hp} (s : SS E H0 S0 H F R) (p : Pick R (boxR b m) R' (boxR b n)) (f : Fr [b] H H') (h : Box b n H') : SS E H0 S0 H' F R' :=
  s.upd p rfl f h (List.nodup_cons.mpr ⟨List.not_mem_nil, List.nodup_nil⟩) (fun a h => .inl h) fun a ha => by
    cases ha with
    | head => obtain ⟨xs, e⟩ := h.cell; exact ⟨_, e, fun z => z⟩
    | tail _ z => cases z
/-- draws that end in a new list -/
theorem SS.drawN {b q : Addr} {m n : Nat} {H' : Hp} {o : HO} (s : SS E H0 S0 H F R) (p : Pick R (boxR b m) R' (boxR b n)) (f : Fr [b] H H') (h : Box b n H') (hq : H q = none) (hc : H' q = some o) (no : ¬ Imm E.MC o) : SS E H0 S0 H' F (cellR q o :: R') := by
  have s' := s.draw p f h
  obtain ⟨xs, eb⟩ := (show Box b m H from s.r _ p.mem).cell
  have hqf : q ∉ fps R' := fun z => by
    rcases fps_pick p q z with z | z
    · rw [List.mem_singleton.mp z, eb] at hq; cases hq
    · obtain ⟨u, hu, _⟩ := s.tr q z
      rw [hu] at hq; cases hq
  refine ⟨s'.f, fun x hx => ?_, List.nodup_cons.mpr ⟨hqf, s'.nd⟩, fun a ha => ?_, s'.fr, fun a ha => ?_⟩
  · cases hx with
    | head => exact hc
    | tail _ hx => exact s'.r x hx
  · rcases List.mem_cons.mp ha with rfl | ha
    · exact ⟨o, hc, no⟩
    · exact s'.tr a ha
  · rcases List.mem_cons.mp ha with rfl | ha
    · by_cases hs : a ∈ S0
      · exact .inl hs
      · refine .inr ?_
        cases e : H0 a with
        | none => rfl
        | some u => rw [s.fr a u hs e] at hq; cases hq
    · exact s'.ow a ha
theorem SS.box {b : Addr} {n : Nat} (s : SS E H0 S0 H F R) (m : boxR b n ∈ R) : Box b n H := s.r _ m
/-- at the entry: a box -/
theorem SS.box1 {b : Addr} {n : Nat} (h : Box b n H) : SS E H [b] H [] [boxR b n] := SS.start (E := E) (F := []) (R := [boxR b n]) (fun _ h => nomatch h) (fun x hx => by
    cases hx with
    | head => exact h
    | tail _ z => cases z) (List.nodup_cons.mpr ⟨List.not_mem_nil, List.nodup_nil⟩) fun a ha => by
    cases ha with
    | head => obtain ⟨xs, e⟩ := h.cell; exact ⟨_, e, fun z => z⟩
    | tail _ z => cases z
/-- xs.pop(i) -/
theorem pop_ss {l : Addr} {xs : List V} {i : Int} {j : Nat} {y : V} (s : SS E H0 S0 H F R) (p : Pick R (lstR l xs) R' (lstR l (xs.eraseIdx j))) (hi : i = (j : Int)) (hj : xs[j]? = some y) (hb : j < 2 ^ 62)
    (k : ∀ H', SS E H0 S0 H' F R' → Q y H') : rPopAt (.ref l) [.int i] H Q := by
  have hlt := (List.getElem?_eq_some_iff.mp hj).1
  refine ⟨l, xs, i, j, y, rfl, rfl, s.cell p.mem, by omega, by omega, ?_, hj, k _ (s.put p (fun z => z))⟩
  subst hi
  unfold seqIndex?
  simp
  omega
end
end G
/-! trees as the laws draw them -/
namespace G
open PySem PySem.Spec PyProof.Rows L2
/-- a look (false), a test (true), of these kinds and marks -/
def Tr.wf (ks ms : List Str) : Bool → Tr → Prop
  | false, .z w => w = "here"
  | true, .z w => w = "always"
  | false, .st k d => k ∈ ks ∧ (d = 1 ∨ d = -1)
  | true, .st _ _ => False
  | true, .mk k => k ∈ ms
  | false, .mk _ => False
  | true, .one w a => (w = "found" ∧ Tr.wf ks ms false a) ∨ (w = "not" ∧ Tr.wf ks ms true a)
  | false, .one _ _ => False
  | false, .two w a b => ((w = "then" ∨ w = "or" ∨ w = "and") ∧ Tr.wf ks ms false a ∧ Tr.wf ks ms false b) ∨ (w = "when" ∧ Tr.wf ks ms false a ∧ Tr.wf ks ms true b)
  | true, .two w a b => (w = "same" ∧ Tr.wf ks ms false a ∧ Tr.wf ks ms false b) ∨ ((w = "and" ∨ w = "or" ∨ w = "xor") ∧ Tr.wf ks ms true a ∧ Tr.wf ks ms true b)
/-- .. of at most n leaves -/
structure Gd (ks ms : List Str) (b : Bool) (n : Nat) (t : Tr) : Prop where
  wf : t.wf ks ms b
  dep : t.dep ≤ 3 * n + (if b then 1 else 0) - (if b then 0 else 1)
  st : (t.told "step").length ≤ 2 * n
  tm : (t.told "marked").length ≤ n
  pos : 1 ≤ n
theorem okw_of {w : Str} (h : w ∈ ([Str.ofString "here", Str.ofString "always", Str.ofString "found", Str.ofString "not", Str.ofString "then", Str.ofString "or", Str.ofString "and", Str.ofString "when", Str.ofString "same", Str.ofString "xor"] : List Str)) : Tr.okw w := by
  unfold Tr.okw
  have key : ∀ v ∈ ([Str.ofString "here", Str.ofString "always", Str.ofString "found", Str.ofString "not", Str.ofString "then", Str.ofString "or", Str.ofString "and", Str.ofString "when", Str.ofString "same", Str.ofString "xor"] : List Str), v ≠ Str.ofString "step" ∧ v ≠ Str.ofString "marked" ∧ PyData.strOk v = true := by decide +kernel
  exact key w h
theorem Tr.wf_ok {ks ms : List Str} (hk : ∀ k ∈ ks, PyData.strOk k = true) (hm : ∀ k ∈ ms, PyData.strOk k = true) : ∀ (t : Tr) (b : Bool), t.wf ks ms b → t.ok := by
  intro t
  induction t with
  | z w => intro b h; cases b <;> (obtain rfl := (show w = _ from h); exact okw_of (by simp))
  | st k d => intro b h; cases b with
    | false => exact hk k h.1
    | true => exact h.elim
  | mk k => intro b h; cases b with
    | false => exact h.elim
    | true => exact hm k h
  | one w a ih => intro b h; cases b with
    | false => exact h.elim
    | true => rcases h with ⟨rfl, h⟩ | ⟨rfl, h⟩ <;> exact ⟨okw_of (by simp), ih _ h⟩
  | two w a b iha ihb => intro c h; cases c with
    | false => rcases h with ⟨rfl | rfl | rfl, h1, h2⟩ | ⟨rfl, h1, h2⟩ <;> exact ⟨okw_of (by simp), iha _ h1, ihb _ h2⟩
    | true => rcases h with ⟨rfl, h1, h2⟩ | ⟨rfl | rfl | rfl, h1, h2⟩ <;> exact ⟨okw_of (by simp), iha _ h1, ihb _ h2⟩
theorem dp_strs {K : PySem.W.Frag} {H : Hp} : ∀ ks : List Str, DpAll K H (ks.map V.str) (ks.map PyData.str)
  | [] => .nil
  | k :: r => .cons (.str k) (dp_strs r)
theorem shaped_strs {ks : List Str} (h : ∀ k ∈ ks, PyData.strOk k = true) : SeqAt.shaped (.list (ks.map PyData.str)) = true := by
  have a : ∀ ks : List Str, (∀ k ∈ ks, PyData.strOk k = true) → PyData.canLayAll0 (ks.map PyData.str) = true := by
    intro ks
    induction ks with
    | nil => intro _; rfl
    | cons k r ih =>
      intro h
      simp [PyData.canLayAll0, PyData.canLay0]
      exact ⟨h k (.head _), ih fun x hx => h x (.tail _ hx)⟩
  have b : ∀ ks : List Str, PyData.depthAll (ks.map PyData.str) = 0 := by
    intro ks
    induction ks with
    | nil => rfl
    | cons k r ih => simp [PyData.depthAll, PyData.depth, ih]
  unfold SeqAt.shaped
  simp [PyData.canLay0, PyData.depth, a ks h, b ks]
/-- names == [] -/
theorem wo_eqE {Γ : Gm} {H : Hp} {Q : VK} {p q : Addr} {ks : List Str} (hp : SqL Γ.K H p (ks.map V.str)) (hq : SqL Γ.K H q []) (ok : ∀ k ∈ ks, PyData.strOk k = true) (k : Q (.bl ks.isEmpty) H) : WO Γ (compareOp .Eq) (.ref p) (.ref q) H Q :=
  ⟨rEqD Γ.K, fun X g => (by have := op_eqD (X := X) (Nat.lt_of_le_of_lt (Nat.le_refl _) g.hu64); rw [g.K] at this; exact this), _, _, .lst hp (dp_strs ks), .lst hq .nil, shaped_strs ok, by decide, by
    have e : PyData.eqv (.list (ks.map PyData.str)) (.list []) = ks.isEmpty := by cases ks <;> simp [PyData.eqv, PyData.eqvAll]
    rw [e]; exact k⟩
end G
/-! ascending texts; what stands in a tree's tuple; equality of lists of trees -/
namespace G
open PySem PySem.Spec PyProof.Rows L2
def leS (a b : Str) : Prop := ¬ b.cps.toList < a.cps.toList
theorem leS_of {a b : Str} (h : ltCps b.cps.toList a.cps.toList = false) : leS a b := by
  rw [ltCps_eq] at h
  exact of_decide_eq_false h
theorem leS_trans {a b c : Str} (h : leS a b) (k : leS b c) : leS a c := List.le_trans (l₁ := a.cps.toList) h k
theorem str_ext {a b : Str} (h : a.cps.toList = b.cps.toList) : a = b := by
  obtain ⟨x⟩ := a
  obtain ⟨y⟩ := b
  congr 1
  exact Array.toList_inj.mp h
theorem leS_anti {a b : Str} (h : leS a b) (k : leS b a) : a = b := str_ext (List.le_antisymm h k)
theorem rising_le : ∀ {x : Str} {r : List Str}, risingS x r = true → ∀ z ∈ r, leS x z
  | _, [], _, z, hz => nomatch hz
  | x, y :: r, h, z, hz => by
    simp only [risingS, Bool.and_eq_true, Bool.not_eq_true'] at h
    have h1 := leS_of h.1
    cases hz with
    | head => exact h1
    | tail _ hz => exact leS_trans h1 (rising_le h.2 z hz)
theorem rising_pw : ∀ {x : Str} {r : List Str}, risingS x r = true → (x :: r).Pairwise leS
  | _, [], _ => List.pairwise_singleton _ _
  | x, y :: r, h => by
    have h' := h
    simp only [risingS, Bool.and_eq_true, Bool.not_eq_true'] at h
    exact List.pairwise_cons.mpr ⟨rising_le h', rising_pw h.2⟩
theorem sorted_pw : ∀ {l : List Str}, sortedS l = true → l.Pairwise leS
  | [], _ => .nil
  | _ :: _, h => rising_pw h
/-- two ascending lists of the same texts, each once -/
theorem asc_eq {xs ys : List Str} (hx : xs.Pairwise leS) (hy : ys.Pairwise leS) (nx : xs.Nodup) (ny : ys.Nodup) (h : ∀ z, z ∈ xs ↔ z ∈ ys) : xs = ys :=
  ((List.perm_ext_iff_of_nodup nx ny).mpr h).eq_of_pairwise (fun _ _ _ _ => leS_anti) hx hy
theorem perm_sorted_eq {xs ys : List Str} (hx : sortedS xs = true) (hy : sortedS ys = true) (p : xs.Perm ys) : xs = ys :=
  p.eq_of_pairwise (fun _ _ _ _ => leS_anti) (sorted_pw hx) (sorted_pw hy)
section
variable {K : PySem.W.Frag} {H : Hp}
/-- an item of the tuple: no tree, or the next tree -/
theorem Rest.at2 {r : List V} {ts : List Tr} (h : Rest K H r ts) : ∀ {i : Nat} {x : V}, r[i]? = some x → (((∃ z, x = .str z) ∨ ∃ j, x = .int j)) ∨ ∃ p t, x = .ref p ∧ TrP K H t p ∧ ts[(r.take i).countP isRef]? = some t := by
  induction h with
  | nil => intro i x e; simp at e
  | str _ ih => intro i x e; cases i with
    | zero => simp at e; exact .inl (.inl ⟨_, e.symm⟩)
    | succ i => simpa [isRef] using ih e
  | int _ ih => intro i x e; cases i with
    | zero => simp at e; exact .inl (.inr ⟨_, e.symm⟩)
    | succ i => simpa [isRef] using ih e
  | ref hp _ ih => intro i x e; cases i with
    | zero => simp at e; exact .inr ⟨_, _, e.symm, hp, by simp⟩
    | succ i =>
      rcases ih e with h | ⟨q, s, e2, h2, h3⟩
      · exact .inl h
      · refine .inr ⟨q, s, e2, h2, ?_⟩
        rw [List.take_succ_cons, List.countP_cons_of_pos rfl]
        exact h3
theorem Rest.cnt {r : List V} {ts : List Tr} (h : Rest K H r ts) : r.countP isRef = ts.length := by
  induction h with
  | nil => rfl
  | str _ ih => simpa [isRef] using ih
  | int _ ih => simpa [isRef] using ih
  | ref _ _ ih => rw [List.countP_cons_of_pos rfl, ih, List.length_cons]
theorem take_cnt {r : List V} {i : Nat} {x : V} (h : r[i]? = some x) : (r.take (i + 1)).countP isRef = (r.take i).countP isRef + if isRef x then 1 else 0 := by
  rw [List.take_add_one, h, List.countP_append]
  cases x <;> simp [isRef]
/-- the names of the first n trees within -/
def Tr.toldN (w : Str) (t : Tr) (n : Nat) : List Str := t.top w ++ ((t.subs.take n).map (Tr.told w)).flatten
theorem Tr.toldN_0 (w : Str) (t : Tr) : t.toldN w 0 = t.top w := by simp [Tr.toldN]
theorem Tr.toldN_s {w : Str} {t s : Tr} {n : Nat} (h : t.subs[n]? = some s) : t.toldN w (n + 1) = t.toldN w n ++ s.told w := by
  unfold Tr.toldN
  rw [List.take_add_one, h]
  simp
theorem Tr.toldN_all (w : Str) (t : Tr) : t.toldN w t.subs.length = t.told w := by
  unfold Tr.toldN
  rw [List.take_length, Tr.told_all]
theorem Tr.toldN_le (w : Str) (t : Tr) (n : Nat) : (t.toldN w n).length ≤ (t.told w).length := Tr.told_take w t n
theorem Tr.told_steps : ∀ t : Tr, (t.told "step").length = t.steps
  | .z _ => rfl
  | .st k d => by simp [Tr.told, Tr.steps]
  | .mk k => by
    show (if (Str.ofString "marked") = (Str.ofString "step") then [k] else []).length = 0
    rw [if_neg (by decide +kernel)]
    rfl
  | .one _ a => Tr.told_steps a
  | .two _ a b => by
    show (a.told "step" ++ b.told "step").length = a.steps + b.steps
    rw [List.length_append, Tr.told_steps a, Tr.told_steps b]
/-- names and names are equal -/
theorem eqvAll_strs : ∀ xs ys : List Str, PyData.eqvAll (xs.map PyData.str) (ys.map PyData.str) = decide (xs = ys)
  | [], [] => by simp [PyData.eqvAll]
  | [], _ :: _ => by simp [PyData.eqvAll]
  | _ :: _, [] => by simp [PyData.eqvAll]
  | x :: xs, y :: ys => by
    have ih := eqvAll_strs xs ys
    have e : PyData.eqvAll ((x :: xs).map PyData.str) ((y :: ys).map PyData.str) = (decide (x = y) && decide (xs = ys)) := by
      rw [← ih]
      simp only [List.map_cons, PyData.eqvAll, PyData.eqv]
      congr 1
    rw [e]
    by_cases h : x = y <;> by_cases k : xs = ys <;> simp [h, k]
theorem shaped_strT {ks : List Str} (h : ∀ k ∈ ks, PyData.strOk k = true) : SeqAt.shaped (.tuple (ks.map PyData.str)) = true := by
  have := shaped_strs h
  unfold SeqAt.shaped at this ⊢
  simpa [PyData.canLay0, PyData.depth] using this
theorem wo_eqST {Γ : Gm} {Q : VK} {p q : Addr} {xs ys : List Str} (hp : SqT Γ.K H p (xs.map V.str)) (hq : SqT Γ.K H q (ys.map V.str)) (ox : ∀ k ∈ xs, PyData.strOk k = true) (oy : ∀ k ∈ ys, PyData.strOk k = true) (k : Q (.bl (decide (xs = ys))) H) : WO Γ (compareOp .Eq) (.ref p) (.ref q) H Q :=
  ⟨rEqD Γ.K, fun X g => (by have := op_eqD (X := X) (Nat.lt_of_le_of_lt (Nat.le_refl _) g.hu64); rw [g.K] at this; exact this), _, _, .tup hp (dp_strs xs), .tup hq (dp_strs ys), shaped_strT ox, shaped_strT oy, by
    have e : PyData.eqv (.tuple (xs.map PyData.str)) (.tuple (ys.map PyData.str)) = decide (xs = ys) := by rw [tk, eqvAll_strs]
    rw [e]; exact k⟩
/-- lists of trees are equal -/
theorem eqvAll_trs : ∀ xs ys : List Tr, PyData.eqvAll (xs.map Tr.data) (ys.map Tr.data) = decide (xs = ys)
  | [], [] => by simp [PyData.eqvAll]
  | [], _ :: _ => by simp [PyData.eqvAll]
  | _ :: _, [] => by simp [PyData.eqvAll]
  | x :: xs, y :: ys => by
    have ih := eqvAll_trs xs ys
    have e : PyData.eqvAll ((x :: xs).map Tr.data) ((y :: ys).map Tr.data) = (decide (x = y) && decide (xs = ys)) := by
      rw [← ih, ← Tr.eqv x y]
      simp only [List.map_cons, PyData.eqvAll]
    rw [e]
    by_cases h : x = y <;> by_cases k : xs = ys <;> simp [h, k]
theorem TrPs.dp {ts : List Tr} {ps : List Addr} (h : TrPs K H ts ps) : DpAll K H (ps.map V.ref) (ts.map Tr.data) := by
  induction h with
  | nil => exact .nil
  | cons a _ ih => exact .cons a.dp ih
theorem shaped_trs {ts : List Tr} (o : ∀ t ∈ ts, t.ok) (d : ∀ t ∈ ts, t.dep ≤ 63) : SeqAt.shaped (.list (ts.map Tr.data)) = true := by
  have a : ∀ ts : List Tr, (∀ t ∈ ts, t.ok) → PyData.canLayAll0 (ts.map Tr.data) = true := by
    intro ts
    induction ts with
    | nil => intro _; rfl
    | cons k r ih =>
      intro h
      simp only [List.map_cons, PyData.canLayAll0, Bool.and_eq_true]
      exact ⟨Tr.lay (h k (.head _)), ih fun x hx => h x (.tail _ hx)⟩
  have b : ∀ ts : List Tr, (∀ t ∈ ts, t.dep ≤ 63) → PyData.depthAll (ts.map Tr.data) ≤ 63 := by
    intro ts
    induction ts with
    | nil => intro _; simp [PyData.depthAll]
    | cons k r ih =>
      intro h
      have h1 := h k (.head _)
      have h2 := ih fun x hx => h x (.tail _ hx)
      simp only [List.map_cons, PyData.depthAll, Tr.depth]
      omega
  have h1 := a ts o
  have h2 := b ts d
  unfold SeqAt.shaped
  simp [PyData.canLay0, PyData.depth, h1]
  omega
theorem wo_eqTs {Γ : Gm} {Q : VK} {p q : Addr} {ss ts : List Tr} {ps qs : List Addr} (hp : SqL Γ.K H p (ps.map V.ref)) (hq : SqL Γ.K H q (qs.map V.ref)) (hs : TrPs Γ.K H ss ps) (ht : TrPs Γ.K H ts qs) (os : ∀ t ∈ ss, t.ok) (ot : ∀ t ∈ ts, t.ok) (ds : ∀ t ∈ ss, t.dep ≤ 63) (dt : ∀ t ∈ ts, t.dep ≤ 63)
    (k : Q (.bl (decide (ss = ts))) H) : WO Γ (compareOp .Eq) (.ref p) (.ref q) H Q :=
  ⟨rEqD Γ.K, fun X g => (by have := op_eqD (X := X) (Nat.lt_of_le_of_lt (Nat.le_refl _) g.hu64); rw [g.K] at this; exact this), _, _, .lst hp hs.dp, .lst hq ht.dp, shaped_trs os ds, shaped_trs ot dt, by
    have e : PyData.eqv (.list (ss.map Tr.data)) (.list (ts.map Tr.data)) = decide (ss = ts) := by
      have : PyData.eqv (.list (ss.map Tr.data)) (.list (ts.map Tr.data)) = PyData.eqvAll (ss.map Tr.data) (ts.map Tr.data) := by simp [PyData.eqv]
      rw [this, eqvAll_trs]
    rw [e]; exact k⟩
/-- x not in xs, both of names -/
theorem wo_notInS {Γ : Gm} {Q : VK} {z : Str} {p : Addr} {xs : List Str} (hp : SqL Γ.K H p (xs.map V.str)) (k : Q (.bl (!decide (z ∈ xs))) H) : WO Γ (compareOp .NotIn) (.str z) (.ref p) H Q :=
  ⟨rIn Γ.K true, fun X g => (by have := op_notIn_seq (X := X); rw [g.K] at this; exact this), p, xs.map V.str, rfl, .inl hp, rfl, by rw [List.all_map]; exact List.all_eq_true.mpr fun _ _ => rfl, by
    have e : inV (.str z) (xs.map V.str) = decide (z ∈ xs) := by
      unfold inV
      rw [List.any_map]
      by_cases h : z ∈ xs
      · rw [decide_eq_true h]
        exact List.any_eq_true.mpr ⟨z, h, by simp [eqV]⟩
      · rw [decide_eq_false h, List.any_eq_false]
        intro y hy e
        simp [eqV] at e
        exact h (e ▸ hy)
    rw [if_pos rfl, e]
    exact k⟩
end
end G
namespace G
open PySem PySem.Spec PyProof.Rows L2
/-- a comprehension's scope within another one's -/
def relS (scope S : Scope) : Scope := { scope with names := scope.names.map fun (n, k) => if (k == .free && S.kind == .function && S.names.lookup n == some .cell) then (n, .cell) else (n, k) }
theorem blkIn {N : List Str} {S : Scope} {X : Cx} {s : Shared} {H : Hp} {scope sc2 : Scope} {C : Addr} {cl : List (Str × Addr)} {fp : List Addr} {own : List (Str × Nat)} (e : X.N = N) (e2 : X.env.scope = S) (h : blkC N (relS scope S) sc2 own = true) :
    BlkOk (X.blk s H scope (compEnvC scope cl C X.env) fp).N (X.blk s H scope (compEnvC scope cl C X.env) fp).env.scope sc2 own := by
  have h' : blkC X.N (relabel scope X.env) sc2 own = true := by rw [e]; subst e2; exact h
  exact blkOk_by h'
abbrev E1 (Γ : Gm) : Hv := ⟨Γ.K, fun _ => False⟩
theorem Tr.told_ok : ∀ {t : Tr}, t.ok → ∀ (w y : Str), y ∈ t.told w → PyData.strOk y = true
  | .z _, _, w, y, h => nomatch h
  | .st k d, ok, w, y, h => by
    have h2 : y ∈ (if (Str.ofString "step") = w then [k] else []) := h
    split at h2
    · rw [List.mem_singleton.mp h2]; exact ok
    · cases h2
  | .mk k, ok, w, y, h => by
    have h2 : y ∈ (if (Str.ofString "marked") = w then [k] else []) := h
    split at h2
    · rw [List.mem_singleton.mp h2]; exact ok
    · cases h2
  | .one _ a, ok, w, y, h => Tr.told_ok (t := a) ok.2 w y h
  | .two _ a b, ok, w, y, h => by
    have h2 : y ∈ a.told w ++ b.told w := h
    rcases List.mem_append.mp h2 with h | h
    · exact Tr.told_ok ok.2.1 w y h
    · exact Tr.told_ok ok.2.2 w y h
section
variable {E : Hv} {H0 H : Hp} {S0 : List Addr} {F : List (PF E)} {R : List (RS E)} {p : Addr} {o : HO}
/-- one more list that is read -/
theorem SS.ro (s : SS E H0 S0 H F R) (h : H p = some o) (n : ¬ Imm E.MC o) (new : p ∉ fps R) : SS E H0 S0 H F (cellR p o true :: R) where
  f := s.f
  r := fun x hx => by cases hx with
    | head => exact h
    | tail _ hx => exact s.r x hx
  nd := List.nodup_cons.mpr ⟨new, s.nd⟩
  tr := fun a ha => by
    rcases List.mem_cons.mp ha with rfl | ha
    · exact ⟨o, h, n⟩
    · exact s.tr a ha
  fr := s.fr
  ow := fun a ha => s.ow a ha
end
end G
/-! powers and ways back of trees; Looks and Tests beside one another -/
namespace G
open PySem PySem.Spec PyProof.Rows L2
theorem Tr.grp_dep (t : Tr) : ∀ n, (t.grp n).dep ≤ t.dep + n
  | 0 => by
    have : 1 ≤ t.dep := by cases t <;> simp [Tr.dep]
    simp [Tr.grp, Tr.dep]; omega
  | 1 => by simp [Tr.grp]
  | n + 2 => by
    have := Tr.grp_dep t (n + 1)
    simp only [Tr.grp, Tr.dep]
    omega
theorem Tr.grp_ok {t : Tr} (o : t.ok) : ∀ n, (t.grp n).ok
  | 0 => okw_of (by simp)
  | 1 => o
  | n + 2 => ⟨okw_of (by simp), Tr.grp_ok o (n + 1), o⟩
theorem Tr.grp_walk {t : Tr} (w : t.walk) : ∀ n, (t.grp n).walk
  | 0 => rfl
  | 1 => w
  | n + 2 => ⟨rfl, Tr.grp_walk w (n + 1), w⟩
theorem Tr.grp_steps (t : Tr) : ∀ n, (t.grp n).steps = n * t.steps
  | 0 => by simp [Tr.grp, Tr.steps]
  | 1 => by simp [Tr.grp]
  | n + 2 => by
    have := Tr.grp_steps t (n + 1)
    simp only [Tr.grp, Tr.steps, this, Nat.add_mul]
    omega
theorem Tr.back_steps : ∀ t : Tr, t.back.steps = t.steps
  | .z _ => rfl
  | .st _ _ => rfl
  | .mk _ => rfl
  | .one _ _ => rfl
  | .two _ a b => by simp only [Tr.back, Tr.steps, Tr.back_steps a, Tr.back_steps b]; omega
theorem Tr.back_back : ∀ t : Tr, t.back.back = t
  | .z _ => rfl
  | .st _ _ => by simp [Tr.back]
  | .mk _ => rfl
  | .one _ _ => rfl
  | .two _ a b => by simp only [Tr.back, Tr.back_back a, Tr.back_back b]
theorem Tr.back_walk : ∀ {t : Tr}, t.walk → t.back.walk
  | .z _, h => h
  | .st _ _, h => h
  | .two _ a b, h => ⟨h.1, Tr.back_walk h.2.2, Tr.back_walk h.2.1⟩
theorem Tr.back_dep : ∀ t : Tr, t.back.dep = t.dep
  | .z _ => rfl
  | .st _ _ => rfl
  | .mk _ => rfl
  | .one _ _ => rfl
  | .two _ a b => by simp only [Tr.back, Tr.dep, Tr.back_dep a, Tr.back_dep b]; omega
theorem Tr.back_ok : ∀ {t : Tr}, t.ok → t.back.ok
  | .z _, h => h
  | .st _ _, h => h
  | .mk _, h => h
  | .one _ _, h => h
  | .two _ a b, h => ⟨h.1, Tr.back_ok h.2.2, Tr.back_ok h.2.1⟩
theorem Tr.walk_ok {ks : List Str} (h : ∀ k ∈ ks, PyData.strOk k = true) {t : Tr} {b : Bool} {ms : List Str} (hm : ∀ k ∈ ms, PyData.strOk k = true) (w : t.wf ks ms b) : t.ok := Tr.wf_ok h hm t b w
/-- no Look's tree is a Test's -/
theorem Tr.wf_ne {ks ms ks' ms' : List Str} : ∀ {t : Tr}, t.wf ks ms false → t.wf ks' ms' true → False
  | .z w, h, k => by
    have h : w = "here" := h
    have k : w = "always" := k
    exact absurd (h.symm.trans k) (by decide +kernel)
  | .st _ _, h, k => k
  | .mk _, h, k => h
  | .one _ _, h, k => h
  | .two w a b, h, k => by
    rcases h with ⟨h, ha, _⟩ | ⟨h, ha, _⟩
    · rcases k with ⟨k, _, _⟩ | ⟨_, ka, _⟩
      · rcases h with h | h | h <;> rw [k] at h <;> exact absurd h (by decide +kernel)
      · exact Tr.wf_ne ha ka
    · rcases k with ⟨k, _, _⟩ | ⟨k, _, _⟩
      · rw [k] at h; exact absurd h (by decide +kernel)
      · rcases k with k | k | k <;> rw [k] at h <;> exact absurd h (by decide +kernel)
theorem Gd.mono {ks ms : List Str} {b : Bool} {n m : Nat} {t : Tr} (g : Gd ks ms b n t) (h : n ≤ m) : Gd ks ms b m t :=
  ⟨g.wf, by have := g.dep; have := g.pos; cases b <;> simp only [Bool.false_eq_true, if_false, if_true] at * <;> omega, by have := g.st; omega, by have := g.tm; omega, by have := g.pos; omega⟩
theorem sub_nil {α : Type} {F : List α} : ∀ y ∈ ([] : List α), y ∈ F := fun _ h => nomatch h
theorem sub_cons {α : Type} {x : α} {F' F : List α} (h : x ∈ F) (k : ∀ y ∈ F', y ∈ F) : ∀ y ∈ x :: F', y ∈ F := fun y hy => by
  cases hy with
  | head => exact h
  | tail _ hy => exact k y hy
section
variable {E : Hv}
theorem fps_subl {R R' : List (RS E)} (h : R'.Sublist R) : (fps R').Sublist (fps R) := by
  induction h with
  | slnil => exact .slnil
  | cons r _ ih => exact ih.trans (List.sublist_append_right _ _)
  | cons_cons r _ ih => exact (List.Sublist.refl _).append ih
theorem ows_subl {R R' : List (RS E)} (h : R'.Sublist R) : (ows R').Sublist (ows R) := by
  induction h with
  | slnil => exact .slnil
  | cons r _ ih => exact ih.trans (List.sublist_append_right _ _)
  | cons_cons r _ ih => exact (List.Sublist.refl _).append ih
/-- fewer things -/
theorem SS.subl {H0 H : Hp} {S0 : List Addr} {F : List (PF E)} {R R' : List (RS E)} (s : SS E H0 S0 H F R) (h : R'.Sublist R) : SS E H0 S0 H F R' :=
  ⟨s.f, fun x hx => s.r x (h.subset hx), (fps_subl h).nodup s.nd, fun a ha => s.tr a ((fps_subl h).subset ha), s.fr, fun a ha => s.ow a ((ows_subl h).subset ha)⟩
end
/-- what the text has of Look and Test -/
structure KE (Γ : Gm) (CL CT : Addr) : Prop where
  L : KF Γ "Look" CL
  T : KF Γ "Test" CT
  nLL : PySem.W.notFirst Γ.K CL (.ref CL) = true
  nLT : PySem.W.notFirst Γ.K CL (.ref CT) = true
  nTL : PySem.W.notFirst Γ.K CT (.ref CL) = true
  nTT : PySem.W.notFirst Γ.K CT (.ref CT) = true
  nTt : PySem.W.notFirst Γ.K CT (.type "tuple") = true
  LT : PySem.W.kitOne Γ.K (.ref CL) (.ref CT) = some false
  TL : PySem.W.kitOne Γ.K (.ref CT) (.ref CL) = some false
/-- .. of powers -/
structure KPw (Γ : Gm) (C : Addr) : Prop where
  r : ∃ rc, PySem.W.findIn Γ.K (.ref C) (dunderR Operator.Pow.info.2) = some rc ∧ (rc = none ∨ ∃ g : Addr, rc = some (.ref g))
  a : ∃ fo, PySem.W.findIn Γ.K (.type "int") (PySem.dunder Operator.Pow.info.2) = some fo
  b : ∃ ro, PySem.W.findIn Γ.K (.type "int") (dunderR Operator.Pow.info.2) = some ro
  s : PySem.W.subIn Γ.K (.type "int") (.ref C) = some false
/-- .. of >>= -/
structure KIn (Γ : Gm) (C : Addr) : Prop where
  i : ∃ cd, PySem.W.clsIn Γ.K C = some cd ∧ ∀ c ∈ cd.mro, PySem.W.findIn Γ.K c (dunderI Operator.RShift.info.2) = some none
end G
/-! dicts by values; defs with *args, methods called with keywords -/
namespace G
open PySem PySem.Spec PyProof.Rows L2
section
variable {Γ : Gm} {X : Cx} {H : Hp} {Q : VK} {a : Addr} {y v : V} {o : Option V}
theorem ix_dk (hu : X.A.units + 1 < cLine) : IxR X (fun x y H Q => ∃ a v, x = .ref a ∧ DGet H a y (some v) ∧ Q v H) := by
  intro value slice pins s σ H x y v u Q I rx ry ⟨a, w, ex, g, q⟩ hs
  subst ex
  obtain rfl : v = Value.ref a := rx
  exact tail_any (dict_typeIs I g) PySem.F.slot_dict_getitem.lookup (d_getItem hu I g ry fun w' s3 I3 rw' => ⟨w, H, I3, rw', q⟩) hs
theorem wx_d (g : DGet H a y (some v)) (q : Q v H) : WX Γ (.ref a) y H Q := ⟨_, fun X g => ix_dk g.hu, a, v, rfl, g, q⟩
theorem op_in_dk (hu : X.A.units + 1 < cLine) : OpR X (compareOp .In) (fun y x H Q => ∃ a o, x = .ref a ∧ DGet H a y o ∧ Q (.bl o.isSome) H) := by
  intro pins s σ H y x u v Q I ry rx ⟨a, o, ex, g, q⟩
  subst ex
  obtain rfl : v = Value.ref a := rx
  exact d_in hu I g ry fun s3 I3 => ⟨.bl o.isSome, H, I3, rfl, q⟩
theorem op_ni_dk (hu : X.A.units + 1 < cLine) : OpR X (compareOp .NotIn) (fun y x H Q => ∃ a o, x = .ref a ∧ DGet H a y o ∧ Q (.bl (!o.isSome)) H) := by
  intro pins s σ H y x u v Q I ry rx ⟨a, o, ex, g, q⟩
  subst ex
  obtain rfl : v = Value.ref a := rx
  exact d_notIn hu I g ry fun s3 I3 => ⟨.bl (!o.isSome), H, I3, rfl, q⟩
theorem wo_inD (g : DGet H a y o) (q : Q (.bl o.isSome) H) : WO Γ (compareOp .In) y (.ref a) H Q := ⟨_, fun X g => op_in_dk g.hu, a, o, rfl, g, q⟩
theorem wo_niD (g : DGet H a y o) (q : Q (.bl (!o.isSome)) H) : WO Γ (compareOp .NotIn) y (.ref a) H Q := ⟨_, fun X g => op_ni_dk g.hu, a, o, rfl, g, q⟩
theorem wp_d {i v : V} {Q : Hp → Prop} {H' : Hp} (h : DPut H a i v H') (q : Q H') : WP Γ (.ref a) i v H Q := ⟨_, fun X g => set_dict g.hu, a, H', rfl, h, q⟩
/-- a name among names -/
theorem inV_strs (z : Str) (xs : List Str) : inV (.str z) (xs.map V.str) = decide (z ∈ xs) := by
  unfold inV
  rw [List.any_map]
  by_cases h : z ∈ xs
  · rw [decide_eq_true h]
    exact List.any_eq_true.mpr ⟨z, h, by simp [eqV]⟩
  · rw [decide_eq_false h, List.any_eq_false]
    intro y hy e
    simp [eqV] at e
    exact h (e ▸ hy)
theorem wo_inS {z : Str} {p : Addr} {xs : List Str} (hp : SqL Γ.K H p (xs.map V.str) ∨ SqT Γ.K H p (xs.map V.str)) (k : Q (.bl (decide (z ∈ xs))) H) : WO Γ (compareOp .In) (.str z) (.ref p) H Q :=
  ⟨rIn Γ.K false, fun X g => (by have := op_in_seq (X := X); rw [g.K] at this; exact this), p, xs.map V.str, rfl, hp, rfl, by rw [List.all_map]; exact List.all_eq_true.mpr fun _ _ => rfl, by
    rw [inV_strs]
    exact k⟩
theorem wo_niS {z : Str} {p : Addr} {xs : List Str} (hp : SqL Γ.K H p (xs.map V.str) ∨ SqT Γ.K H p (xs.map V.str)) (k : Q (.bl (!decide (z ∈ xs))) H) : WO Γ (compareOp .NotIn) (.str z) (.ref p) H Q :=
  ⟨rIn Γ.K true, fun X g => (by have := op_notIn_seq (X := X); rw [g.K] at this; exact this), p, xs.map V.str, rfl, hp, rfl, by rw [List.all_map]; exact List.all_eq_true.mpr fun _ _ => rfl, by
    rw [if_pos rfl, inV_strs]
    exact k⟩
end
/-! ### methods by what they promise of all positional values, and of keywords -/
/-- a promise of positional values and the values of the keywords ks -/
def FnRk (P : Program) (w : World) (K : PySem.W.Frag) (mg : Str → Option Value) (base : Heap) (CX : CXT) (k : Nat) (f : Addr) (ks : List Str) (sp : List V → List V → Hp → VK → XK → Prop) : Prop :=
  ∀ (A : Around) (outer : List Env) (s : Shared) (H : Hp) (us ws : List Value) (vs zs : List V) (Q : VK) (E : XK), Room k A → Env0 P w K mg base A outer s H → Vals vs us → Vals zs ws → zs.length = ks.length → sp vs zs H Q E →
    codeAny (model P w) A (.call (.ref f) ⟨us, ks.zip ws⟩) (CR CX outer P w H s Q E) s
structure Mk' (Γ : Gm) (k : Nat) (C : Addr) (m : Str) (ks : List Str) (sp : List V → List V → Hp → VK → XK → Prop) : Prop where
  ex : ∃ f : Addr, FnRk Γ.P Γ.w Γ.K Γ.mg Γ.base CX0 k f ks sp ∧ Cls Γ.K C ∧ Meth Γ.K C m f
theorem run_fnRk {X : Cx} {pins : List (Addr × Obj)} {σ : L2.St} {H : Hp} {s : Shared} {k : Nat} {f : Addr} {ks : List Str} {sp : List V → List V → Hp → VK → XK → Prop} {E : XK} {Q : VK} {us ws : List Value} {vs zs : List V} (F : FnRk X.prog X.w X.K X.mg X.base CX0 k f ks sp) (hr : Room k X.A) (I : Inv X pins σ H s) (r : Vals vs us) (rz : Vals zs ws) (hl : zs.length = ks.length) (h : sp vs zs H Q E) :
    wpAny (model X.prog X.w) X.A (call (.ref f) us (ks.zip ws)) (EP X pins σ Q) X.xe s := by
  refine wpAny_call (codeAny_mono (F X.A X.stack s H us ws vs zs Q E hr I.env0 r rz hl h) fun r s' hq => ?_)
  cases r with
  | error e => exact (passE (X := X) (E := E)) pins σ H s e s' I hq
  | ok fl =>
    cases fl with
    | ret u => exact I.after hq
    | next => exact False.elim hq
    | brk => exact False.elim hq
    | cont => exact False.elim hq
/-- o.m(.., k = ..): t the positional values, tk the keywords' -/
def tMk (Γ : Gm) (m : Str) (ks : List Str) (ta : TE) (t tk : TA) : TE := fun σ H Q => ta σ H fun x H1 => ∃ (n : Nat) (C a dx : Addr) (fs : List (Str × V)) (sp : List V → List V → Hp → VK → XK → Prop) (E : XK), Mk' Γ n C m ks sp ∧ n ≤ Γ.lv ∧ x = .ref a ∧ H1 a = some (.ins C dx fs) ∧ fs.lookup m = none ∧
  t σ H1 fun vs H2 => tk σ H2 fun zs H3 => zs.length = ks.length ∧ sp (x :: vs) zs H3 Q E
section
variable {Γ : Gm} {X : Cx} {m : Str} {o e : Expr} {es : List Expr} {kws : List Keyword} {ks : List Str} {ta : TE} {t tk : TA} {pos apos : Pos}
theorem pe_mk {pl : Sem Bool} (g : Good Γ X) (ho : PE X o ta) (ha : PA X (e :: es) t) (hkw : PK X kws tk) (hall : (backToKw pos (keywordEach kws X.env)).all (·.1.isSome) = true := by rfl) (hks : (backToKw pos (keywordEach kws X.env)).filterMap (·.1) = ks := by rfl)
    (he : starEach (e :: es) X.env = (false, eval e X.env) :: starEach es X.env := by rfl)
    (hpl : ((backTo pos (starEach (e :: es) X.env)).any (·.1) || (backToKw pos (keywordEach kws X.env)).any (·.1.isNone)) = false := by rfl)
    (ht : eval (.Call (.Attribute o m apos) (e :: es) kws pos) X.env = (do
      let ov ← eval o X.env
      standAt apos.atName
      let (f, first) ← holding [ov] (getMethod ov m pl)
      callWith pos f first (backTo pos (starEach (e :: es) X.env)) (backToKw pos (keywordEach kws X.env))) := by rfl) :
    PE X (.Call (.Attribute o m apos) (e :: es) kws pos) (tMk Γ m ks ta t tk) := by
  refine ⟨fun pins s σ H Q I h => ?_⟩
  refine PySem.W.methodCall_KW (pl := pl) (thn (ho.run pins s σ H _ I h) fun u s1 ⟨x, H1, I1, rx, n, C, a, dx, fs, sp, E, M, hn, ex, ea, l, q⟩ => ?_) ht
  subst ex
  obtain rfl : u = Value.ref a := rx
  obtain ⟨P, w, K, mg, base, lv⟩ := Γ
  obtain ⟨h1, h2, h3, h4, h5, _, hr⟩ := g
  simp only at h1 h2 h3 h4 h5 hr
  subst h1 h2 h3 h4 h5
  obtain ⟨f, F, c, hm⟩ := M.ex
  refine getmeth_ok I1 ea c hm l ?_
  refine PySem.W.callWith_KW (first := [.ref a]) (h₀ := X.base) I1.ok.mod.kin hm.kp hall (thn (ha.run pos pins s1 σ H1 _ I1 q) fun us s2 ⟨vs, H2, I2, r, q2⟩ => ?_) hpl he
  refine thn (hkw.run pos pins s2 σ H2 _ I2 q2) fun ws s3 ⟨zs, H3, I3, rz, lz, q3⟩ => ⟨I3.kIn, ?_⟩
  rw [hks]
  exact run_fnRk (us := .ref a :: us) (vs := .ref a :: vs) F (hr.mono hn) I3 (.cons rfl r) rz lz q3
theorem pe_mk0 {pl : Sem Bool} (g : Good Γ X) (ho : PE X o ta) (hkw : PK X kws tk) (hall : (backToKw pos (keywordEach kws X.env)).all (·.1.isSome) = true := by rfl) (hks : (backToKw pos (keywordEach kws X.env)).filterMap (·.1) = ks := by rfl)
    (hpl : ((backTo pos (starEach [] X.env)).any (·.1) || (backToKw pos (keywordEach kws X.env)).any (·.1.isNone)) = false := by rfl)
    (ht : eval (.Call (.Attribute o m apos) [] kws pos) X.env = (do
      let ov ← eval o X.env
      standAt apos.atName
      let (f, first) ← holding [ov] (getMethod ov m pl)
      callWith pos f first (backTo pos (starEach [] X.env)) (backToKw pos (keywordEach kws X.env))) := by rfl) :
    PE X (.Call (.Attribute o m apos) [] kws pos) (tMk Γ m ks ta tNil tk) := by
  refine ⟨fun pins s σ H Q I h => ?_⟩
  refine PySem.W.methodCall_KW (pl := pl) (thn (ho.run pins s σ H _ I h) fun u s1 ⟨x, H1, I1, rx, n, C, a, dx, fs, sp, E, M, hn, ex, ea, l, q⟩ => ?_) ht
  subst ex
  obtain rfl : u = Value.ref a := rx
  obtain ⟨P, w, K, mg, base, lv⟩ := Γ
  obtain ⟨h1, h2, h3, h4, h5, _, hr⟩ := g
  simp only at h1 h2 h3 h4 h5 hr
  subst h1 h2 h3 h4 h5
  obtain ⟨f, F, c, hm⟩ := M.ex
  refine getmeth_ok I1 ea c hm l ?_
  refine PySem.W.callWith_KW0 (first := [.ref a]) (h₀ := X.base) I1.ok.mod.kin hm.kp hall ?_ hpl
  refine thn (hkw.run pos pins s1 σ H1 _ I1 q) fun ws s3 ⟨zs, H3, I3, rz, lz, q3⟩ => ⟨I3.kIn, ?_⟩
  rw [hks]
  exact run_fnRk (us := [.ref a]) (vs := [.ref a]) F (hr.mono hn) I3 (.cons rfl .nil) rz lz q3
end
end G
namespace G
open PySem PySem.Spec PyProof.Rows L2 StX
/-! ### def f(self, .., *rest) and def f(self, *rest, x=d) -/
theorem FnR.k {P : Program} {w : World} {K : PySem.W.Frag} {mg : Str → Option Value} {base : Heap} {CX : CXT} {k : Nat} {f : Addr} {sp : Sp} (F : FnR P w K mg base CX k f sp) : FnRk P w K mg base CX k f [] (fun vs _ H Q E => sp vs H Q E) :=
  fun A outer s H us ws vs zs Q E hr e0 r rz hl h => F A outer s H us vs Q E hr e0 r h
theorem FnRk.imp {P : Program} {w : World} {K : PySem.W.Frag} {mg : Str → Option Value} {base : Heap} {CX : CXT} {j k : Nat} {f : Addr} {ks : List Str} {sp sp' : List V → List V → Hp → VK → XK → Prop} (F : FnRk P w K mg base CX k f ks sp) (h : ∀ vs zs H Q E, sp' vs zs H Q E → sp vs zs H Q E) (hk : k ≤ j) : FnRk P w K mg base CX j f ks sp' :=
  fun A outer s H us ws vs zs Q E hr e0 r rz hl q => F A outer s H us ws vs zs Q E (hr.mono hk) e0 r rz hl (h _ _ _ _ _ q)
section
variable {P : Program} {w : World} {K : PySem.W.Frag} {mg : Str → Option Value} {base : Heap} {k : Nat} {f : Addr} {name qual : Str} {st : Stmt} {fd : FuncData} {N ps : List Str} {sp : Sp} {pv px : Str} {dv : V}
theorem fun_star (F : FunD K name qual (defArgs st) (defBody st) (defScope st) [] [] f fd) (S : FnScope N (ps ++ [pv]) (defScope st))
    (hb : ∀ (kV doc pm : Value) (an : Option Addr) (cdv ct : Value) (us rest : List Value), us.length = ps.length → bindArgs (PySem.W.fnOf name qual (defArgs st) (defBody st) (defScope st) .none kV doc pm an cdv ct) ⟨us ++ rest, []⟩ = (newTuple rest >>= fun t => pure (ps.zip us ++ [(pv, t)])))
    (hbody : ∀ (cdv : Value) (A : Around) (outer : List Env) (s : Shared) (H : Hp) (vs : List V) (Q : VK) (E : XK), Room k (A.deeper (envOfC qual (defScope st) s.heap.objs.size f cdv)) → sp vs H Q E →
      ∃ t, PSs (cxOf CX0 P w K mg base N qual (defScope st) f cdv A outer s H E).nox (defBody st) t ∧ t { nx := fun _ H' => Q .non H', rt := Q } (L2.start N vs) H) :
    FnR P w K mg base CX0 (k + 1) f (fun vs H Q E => ∃ ws rest, vs = ws ++ rest ∧ ws.length = ps.length ∧ rest.length ≤ sizeLine ∧ ∀ p, H p = Option.none → sp (ws ++ [V.ref p]) (upd H p (.tup rest)) Q E) := by
  obtain ⟨oc, od, dV, kV, doc, pm, an, cdv, ct, osl, rfl, lk, hcd, hD, hK⟩ := F.ex
  rcases hD with ⟨_, rfl⟩ | ⟨e, _⟩
  · refine fn_star lk hcd S (fun _ _ _ _ _ _ _ _ _ _ _ h => h) (hb kV doc pm an cdv ct) fun A outer s H vs Q E hr h => ?_
    obtain ⟨t, h1, h2⟩ := hbody cdv A outer s H vs Q E hr h
    exact ⟨t, h1.nox, h2⟩
  · exact absurd rfl e
/-- the keyword is given -/
theorem fun_kwstar (F : FunD K name qual (defArgs st) (defBody st) (defScope st) [] [(px, dv)] f fd) (S : FnScope N (ps ++ [px, pv]) (defScope st))
    (hb : ∀ (kV doc pm : Value) (an : Option Addr) (cdv ct : Value) (us rest : List Value) (v : Value), us.length = ps.length → bindArgs (PySem.W.fnOf name qual (defArgs st) (defBody st) (defScope st) .none kV doc pm an cdv ct) ⟨us ++ rest, [(px, v)]⟩ = (newTuple rest >>= fun t => pure (ps.zip us ++ [(px, v), (pv, t)])))
    (hbody : ∀ (cdv : Value) (A : Around) (outer : List Env) (s : Shared) (H : Hp) (vs : List V) (Q : VK) (E : XK), Room k (A.deeper (envOfC qual (defScope st) s.heap.objs.size f cdv)) → sp vs H Q E →
      ∃ t, PSs (cxOf CX0 P w K mg base N qual (defScope st) f cdv A outer s H E).nox (defBody st) t ∧ t { nx := fun _ H' => Q .non H', rt := Q } (L2.start N vs) H) :
    FnRk P w K mg base CX0 (k + 1) f [px] (fun vs zs H Q E => ∃ ws rest x, vs = ws ++ rest ∧ zs = [x] ∧ ws.length = ps.length ∧ rest.length ≤ sizeLine ∧ ∀ p, H p = Option.none → sp (ws ++ [x, V.ref p]) (upd H p (.tup rest)) Q E) := by
  obtain ⟨oc, od, dV, kV, doc, pm, an, cdv, ct, osl, rfl, lk, hcd, hD, hK⟩ := F.ex
  rcases hD with ⟨_, rfl⟩ | ⟨e, _⟩
  · intro A outer s H us wsv vs zs Q E hr e0 r rz hlz hsp
    obtain ⟨ws, rest, x, ev, ez, hl, hz, hq⟩ := hsp
    subst ev ez
    obtain ⟨u1, u2, eu, r1, r2⟩ := vals_split r
    subst eu
    obtain ⟨xv, rfl, rx⟩ := vals1 rz
    have hn : H s.heap.objs.size = Option.none := e0.hok.fresh (Nat.le_refl _)
    have hl1 : u1.length = ps.length := by rw [← r1.length]; exact hl
    have hl2 : u2.length ≤ sizeLine := by rw [← r2.length]; exact hz
    show codeAny (model P w) A (.call (.ref f) ⟨u1 ++ u2, [(px, xv)]⟩) _ s
    refine run_bnd lk hcd S hr e0 (G := fun xs H2 => ∃ p, H p = Option.none ∧ xs = ws ++ [x, V.ref p] ∧ H2 = upd H p (.tup rest)) (fun A' Ex Q' h => ?_) fun s2 H2 xs ⟨p, hp, ex, eH⟩ hr' => ?_
    · rw [hb kV doc pm an cdv ct u1 u2 xv hl1]
      refine wpAny_bind (wpAny_newTuple (wpAny_pure ?_) hl2)
      have new : ObjOk P w (upd H s.heap.objs.size (.tup rest)) (s.heap.push ({ cls := .type "tuple", data := .seq u2.toArray } : Obj)) s.heap.objs.size (.tup rest) := ⟨hz, u2, r2, ⟨_, Heap.get?_push_size _ rfl, rfl, _, rfl⟩⟩
      have un := un_laid (fs := frs outer) (s := s) (o := ({ cls := .type "tuple", data := .seq u2.toArray } : Obj)) (u := .tup rest) hn
      have z := h _ _ (ws ++ [x, V.ref s.heap.objs.size]) (u1 ++ [xv, Value.ref s.heap.objs.size]) (env0_laid e0 new) un rfl (fun e s' z => z) (r1.append (.cons rx (.cons rfl .nil)))
        (by rw [List.length_append, List.length_append, hl] <;> rfl) ⟨_, hn, rfl, rfl⟩
      rw [List.zip_append hl1.symm] at z
      exact z
    · subst ex eH
      obtain ⟨t, h1, h2⟩ := hbody cdv A outer s2 _ _ Q E hr' (hq p hp)
      exact ⟨t, h1.nox, h2⟩
  · exact absurd rfl e
/-- the keyword is left out -/
theorem fun_kwstar0 (F : FunD K name qual (defArgs st) (defBody st) (defScope st) [] [(px, dv)] f fd) (S : FnScope N (ps ++ [px, pv]) (defScope st))
    (hb : ∀ (D : Addr) (doc pm : Value) (an : Option Addr) (cdv ct : Value) (us rest : List Value) (v : Value), us.length = ps.length →
      ∃ (β γ : Type) (k1 : Option Value → Sem β) (k2 : β → Sem γ) (k3 : γ → Sem (List (Str × Value))) (a : β), bindArgs (PySem.W.fnOf name qual (defArgs st) (defBody st) (defScope st) .none (.ref D) doc pm an cdv ct) ⟨us ++ rest, []⟩ = ((nsGet D px >>= k1) >>= k2) >>= k3 ∧
        k1 (some v) = pure a ∧ (k2 a >>= k3) = (newTuple rest >>= fun t => pure (ps.zip us ++ [(px, v), (pv, t)])))
    (hbody : ∀ (cdv : Value) (A : Around) (outer : List Env) (s : Shared) (H : Hp) (vs : List V) (Q : VK) (E : XK), Room k (A.deeper (envOfC qual (defScope st) s.heap.objs.size f cdv)) → sp vs H Q E →
      ∃ t, PSs (cxOf CX0 P w K mg base N qual (defScope st) f cdv A outer s H E).nox (defBody st) t ∧ t { nx := fun _ H' => Q .non H', rt := Q } (L2.start N vs) H) :
    FnRk P w K mg base CX0 (k + 1) f [] (fun vs _ H Q E => ∃ ws rest, vs = ws ++ rest ∧ ws.length = ps.length ∧ rest.length ≤ sizeLine ∧ ∀ p, H p = Option.none → sp (ws ++ [dv, V.ref p]) (upd H p (.tup rest)) Q E) := by
  obtain ⟨oc, od, dV, kV, doc, pm, an, cdv, ct, osl, rfl, lk, hcd, hD, hK⟩ := F.ex
  rcases hD with ⟨_, rfl⟩ | ⟨e, _⟩
  · rcases hK with e | ⟨D, rfl, hq0⟩
    · cases e
    intro A outer s H us wsv vs zs Q E hr e0 r rz hlz hsp
    obtain ⟨ws, rest, ev, hl, hz, hq⟩ := hsp
    subst ev
    obtain ⟨u1, u2, eu, r1, r2⟩ := vals_split r
    subst eu
    obtain ⟨xv, hD, rx⟩ := hq0 _ (List.mem_cons_self ..)
    have hn : H s.heap.objs.size = Option.none := e0.hok.fresh (Nat.le_refl _)
    have hl1 : u1.length = ps.length := by rw [← r1.length]; exact hl
    have hl2 : u2.length ≤ sizeLine := by rw [← r2.length]; exact hz
    have KX : K.In s.heap := e0.mod.kin.keeps fun b o e => (e0.bs b o e).1
    show codeAny (model P w) A (.call (.ref f) ⟨u1 ++ u2, []⟩) _ s
    refine run_bnd lk hcd S hr e0 (G := fun xs H2 => ∃ p, H p = Option.none ∧ xs = ws ++ [dv, V.ref p] ∧ H2 = upd H p (.tup rest)) (fun A' Ex Q' h => ?_) fun s2 H2 xs ⟨p, hp, ex, eH⟩ hr' => ?_
    · obtain ⟨β, γ, k1, k2, k3, a, h1, h2, h3⟩ := hb D doc pm an cdv ct u1 u2 xv hl1
      rw [h1, bind_assoc]
      have lk1 : PySem.W.Looks (model P w) s.heap (nsGet D px >>= k1) a := (PySem.W.looks_nsIn KX hD).andThen (PySem.W.Looks.of_pure h2)
      refine wpAny_bind (lk1 A' _ _ s (fun _ _ e => e) ?_)
      show wpAny (model P w) A' (k2 a >>= k3) Q' Ex s
      rw [h3]
      refine wpAny_bind (wpAny_newTuple (wpAny_pure ?_) hl2)
      have new : ObjOk P w (upd H s.heap.objs.size (.tup rest)) (s.heap.push ({ cls := .type "tuple", data := .seq u2.toArray } : Obj)) s.heap.objs.size (.tup rest) := ⟨hz, u2, r2, ⟨_, Heap.get?_push_size _ rfl, rfl, _, rfl⟩⟩
      have un := un_laid (fs := frs outer) (s := s) (o := ({ cls := .type "tuple", data := .seq u2.toArray } : Obj)) (u := .tup rest) hn
      have z := h _ _ (ws ++ [dv, V.ref s.heap.objs.size]) (u1 ++ [xv, Value.ref s.heap.objs.size]) (env0_laid e0 new) un rfl (fun e s' z => z) (r1.append (.cons rx (.cons rfl .nil)))
        (by rw [List.length_append, List.length_append, hl] <;> rfl) ⟨_, hn, rfl, rfl⟩
      rw [List.zip_append hl1.symm] at z
      exact z
    · subst ex eH
      obtain ⟨t, h1, h2⟩ := hbody cdv A outer s2 _ _ Q E hr' (hq p hp)
      exact ⟨t, h1.nox, h2⟩
  · exact absurd rfl e
end
end G
/-! tables: kinds, rows, links -/
namespace G
open PySem PySem.Spec PyProof.Rows L2
/-- ascending NAMEs, each once -/
structure Asc (zs : List Str) : Prop where
  pw : zs.Pairwise leS
  nd : zs.Nodup
  ok : ∀ z ∈ zs, PyData.strOk z = true
theorem Asc.nil : Asc [] := ⟨.nil, .nil, fun _ h => nomatch h⟩
theorem Asc.eq {xs ys : List Str} (a : Asc xs) (b : Asc ys) (h : ∀ z, z ∈ xs ↔ z ∈ ys) : xs = ys := asc_eq a.pw b.pw a.nd b.nd h
abbrev Mp := List (Nat × Nat)
structure Tb where
  ks : List Str
  rows : List (List Str × Int)
  nx : List Mp
  bf : List Mp
/-- where a table's parts stand -/
structure TAd where
  a : Addr
  dx : Addr
  ps : Addr
  pn : Addr
  pb : Addr
  pf : Addr
  pm : Addr
  qs : List Addr
  rs : List Addr
def TAd.fp (A : TAd) : List Addr := A.pn :: A.pb :: A.pf :: A.pm :: (A.qs ++ A.rs)
def TAd.fs (A : TAd) : List (Str × V) := [("sorts", .ref A.ps), ("nexts", .ref A.pn), ("befores", .ref A.pb), ("facts", .ref A.pf), ("numbers", .ref A.pm)]
def mpK (m : Mp) : List (Key × V) := m.map fun e => (Sum.inl (e.1 : Int), V.int e.2)
def kdK (ks : List Str) (qs : List Addr) : List (Key × V) := (ks.zip qs).map fun e => (Sum.inr e.1, V.ref e.2)
/-- tuples of marks, row by row -/
structure Mks (K : PySem.W.Frag) (H : Hp) (ts : List Addr) (rows : List (List Str × Int)) : Prop where
  len : ts.length = rows.length
  at_ : ∀ (i : Nat) (t : Addr) (r : List Str × Int), ts[i]? = some t → rows[i]? = some r → SqT K H t (r.1.map V.str)
/-- dicts, kind by kind -/
structure Dks (H : Hp) (qs : List Addr) (ms : List Mp) : Prop where
  len : qs.length = ms.length
  at_ : ∀ (i : Nat) (q : Addr) (m : Mp), qs[i]? = some q → ms[i]? = some m → H q = some (.dK (mpK m))
structure TbP (K : PySem.W.Frag) (C : Addr) (A : TAd) (T : Tb) (H : Hp) : Prop where
  ins : H A.a = some (.ins C A.dx A.fs)
  so : SqT K H A.ps (T.ks.map V.str)
  nx : H A.pn = some (.dK (kdK T.ks A.qs))
  bf : H A.pb = some (.dK (kdK T.ks A.rs))
  fa : ∃ ts : List Addr, H A.pf = some (.lst (ts.map V.ref)) ∧ Mks K H ts T.rows
  nu : H A.pm = some (.lst (T.rows.map fun r => V.int r.2))
  qd : Dks H A.qs T.nx
  rd : Dks H A.rs T.bf
  kn : T.nx.length = T.ks.length
  kb : T.bf.length = T.ks.length
  nd : A.fp.Nodup
  ka : Asc T.ks
  ra : ∀ r ∈ T.rows, Asc r.1
section
variable {K : PySem.W.Frag} {C : Addr} {A : TAd} {T : Tb} {H H' : Hp}
theorem Mks.loc {MC : Addr → Prop} {ts : List Addr} {rows : List (List Str × Int)} (k : ∀ a o, H a = some o → a ∈ ([] : List Addr) ∨ Imm MC o → H' a = some o) (h : Mks K H ts rows) : Mks K H' ts rows :=
  ⟨h.len, fun i t r h1 h2 => sqt_loc k (h.at_ i t r h1 h2)⟩
theorem TbP.loc {MC : Addr → Prop} (nc : ¬ MC C) : Loc MC A.fp (TbP K C A T) := fun H H' k h => by
  have k2 : ∀ a o, H a = some o → a ∈ ([] : List Addr) ∨ Imm MC o → H' a = some o := fun a o e i => k a o e (i.elim (fun z => nomatch z) .inr)
  obtain ⟨ts, h1, h2⟩ := h.fa
  exact ⟨k _ _ h.ins (.inr nc), sqt_loc k2 h.so, k _ _ h.nx (.inl (.head _)), k _ _ h.bf (.inl (.tail _ (.head _))), ⟨ts, k _ _ h1 (.inl (.tail _ (.tail _ (.head _)))), h2.loc k2⟩, k _ _ h.nu (.inl (.tail _ (.tail _ (.tail _ (.head _))))),
    ⟨h.qd.len, fun i q m a b => k _ _ (h.qd.at_ i q m a b) (.inl (.tail _ (.tail _ (.tail _ (.tail _ (List.mem_append_left _ (List.mem_of_getElem? a)))))))⟩,
    ⟨h.rd.len, fun i q m a b => k _ _ (h.rd.at_ i q m a b) (.inl (.tail _ (.tail _ (.tail _ (.tail _ (List.mem_append_right _ (List.mem_of_getElem? a)))))))⟩, h.kn, h.kb, h.nd, h.ka, h.ra⟩
theorem TbP.same (h : TbP K C A T H) (s : Same H H') : TbP K C A T H' := TbP.loc (MC := fun _ => False) (fun z => z) H H' (fun a o e _ => s a o e) h
/-- every mutable cell is there -/
theorem TbP.cells {MC : Addr → Prop} (h : TbP K C A T H) : ∀ a ∈ A.fp, ∃ o, H a = some o ∧ ¬ Imm MC o := by
  intro a ha
  obtain ⟨ts, h1, _⟩ := h.fa
  rcases List.mem_cons.mp ha with rfl | ha
  · exact ⟨_, h.nx, fun z => z⟩
  rcases List.mem_cons.mp ha with rfl | ha
  · exact ⟨_, h.bf, fun z => z⟩
  rcases List.mem_cons.mp ha with rfl | ha
  · exact ⟨_, h1, fun z => z⟩
  rcases List.mem_cons.mp ha with rfl | ha
  · exact ⟨_, h.nu, fun z => z⟩
  rcases List.mem_append.mp ha with ha | ha
  · obtain ⟨i, hi, e⟩ := List.mem_iff_getElem.mp ha
    have hl := h.qd.len
    exact ⟨_, h.qd.at_ i a T.nx[i] (by rw [List.getElem?_eq_getElem hi, e]) (List.getElem?_eq_getElem (by omega)), fun z => z⟩
  · obtain ⟨i, hi, e⟩ := List.mem_iff_getElem.mp ha
    have hl := h.rd.len
    exact ⟨_, h.rd.at_ i a T.bf[i] (by rw [List.getElem?_eq_getElem hi, e]) (List.getElem?_eq_getElem (by omega)), fun z => z⟩
/-- no fixed thing stands at a cell -/
theorem TbP.ne {a : Addr} {o : HO} (h : TbP K C A T H) (e : H a = some o) (i : Imm (fun _ => False) o) : a ∉ A.fp := fun z => by
  obtain ⟨u, hu, n⟩ := h.cells (MC := fun _ => False) a z
  rw [e] at hu; cases hu
  exact n i
/-- as long as the cells stand as they do -/
theorem TbP.fr {S : List Addr} (h : TbP K C A T H) (f : Fr S H H') (d : ∀ a ∈ A.fp, a ∉ S) (i : ∀ a ∈ S, ∀ o, H a = some o → ¬ Imm (fun _ => False) o) : TbP K C A T H' :=
  TbP.loc (MC := fun _ => False) (fun z => z) H H' (fun a o e z => f a o (fun m => z.elim (fun z => d a z m) (fun z => i a m o e z)) e) h
variable {ts : List Addr}
theorem nd_pf (h : A.fp.Nodup) : A.pf ≠ A.pn ∧ A.pf ≠ A.pb ∧ A.pf ≠ A.pm ∧ A.pf ∉ A.qs ∧ A.pf ∉ A.rs := by
  simp only [TAd.fp, List.nodup_cons, List.mem_cons, List.mem_append, not_or] at h
  exact ⟨fun e => h.1.2.1 e.symm, fun e => h.2.1.1 e.symm, h.2.2.1.1, h.2.2.1.2.1, h.2.2.1.2.2⟩
theorem nd_pm (h : A.fp.Nodup) : A.pm ≠ A.pn ∧ A.pm ≠ A.pb ∧ A.pm ≠ A.pf ∧ A.pm ∉ A.qs ∧ A.pm ∉ A.rs := by
  simp only [TAd.fp, List.nodup_cons, List.mem_cons, List.mem_append, not_or] at h
  exact ⟨fun e => h.1.2.2.1 e.symm, fun e => h.2.1.2.1 e.symm, fun e => h.2.2.1.1 e.symm, h.2.2.2.1.1, h.2.2.2.1.2⟩
theorem Dks.upd {qs : List Addr} {ms : List Mp} {p : Addr} {o : HO} (h : Dks H qs ms) (n : p ∉ qs) : Dks (L2.upd H p o) qs ms :=
  ⟨h.len, fun i q m a b => by rw [upd_ne (show q ≠ p from fun e => n (by rw [← e]; exact List.mem_of_getElem? a))]; exact h.at_ i q m a b⟩
theorem sqt_upd {p q : Addr} {o u : HO} {xs : List V} (h : SqT K H q xs) (e : H p = some u) (i : ¬ Imm (fun _ => False) u) : SqT K (L2.upd H p o) q xs := by
  rcases h with (h | ⟨o', h⟩) | h
  · exact .inl (.inl (by rw [upd_ne (fun z => by rw [z, e] at h; cases h; exact i trivial)]; exact h))
  · exact .inl (.inr ⟨o', by rw [upd_ne (fun z => by rw [z, e] at h; cases h; exact i trivial)]; exact h⟩)
  · exact .inr h
/-- the marks are rewritten -/
theorem TbP.setF (h : TbP K C A T H) {rows' : List (List Str × Int)} {ts' : List Addr} (m : Mks K H ts' rows') (n : rows'.map (fun r => V.int r.2) = T.rows.map fun r => V.int r.2) (ra : ∀ r ∈ rows', Asc r.1) : TbP K C A { T with rows := rows' } (L2.upd H A.pf (.lst (ts'.map V.ref))) := by
  obtain ⟨ts, h1, _⟩ := h.fa
  obtain ⟨n1, n2, n3, n4, n5⟩ := nd_pf h.nd
  have im : ¬ Imm (fun _ => False) (.lst (ts.map V.ref)) := fun z => z
  have na : A.a ≠ A.pf := fun e => by have := h.ins; rw [e, h1] at this; cases this
  exact ⟨by rw [upd_ne na]; exact h.ins, sqt_upd h.so h1 im, by rw [upd_ne (Ne.symm n1)]; exact h.nx, by rw [upd_ne (Ne.symm n2)]; exact h.bf, ⟨ts', upd_same, ⟨m.len, fun i t r a b => sqt_upd (m.at_ i t r a b) h1 im⟩⟩, by rw [upd_ne (Ne.symm n3)]; show H A.pm = some (.lst (rows'.map _)); rw [n]; exact h.nu, h.qd.upd n4, h.rd.upd n5, h.kn, h.kb, h.nd, h.ka, ra⟩
/-- the numbers are rewritten -/
theorem TbP.setN (h : TbP K C A T H) {rows' : List (List Str × Int)} (n : rows'.map (fun r => r.1) = T.rows.map fun r => r.1) : TbP K C A { T with rows := rows' } (L2.upd H A.pm (.lst (rows'.map fun r => V.int r.2))) := by
  obtain ⟨ts, h1, h2⟩ := h.fa
  obtain ⟨n1, n2, n3, n4, n5⟩ := nd_pm h.nd
  have im : ¬ Imm (fun _ => False) (.lst (T.rows.map fun r => V.int r.2)) := fun z => z
  have na : A.a ≠ A.pm := fun e => by have := h.ins; rw [e, h.nu] at this; cases this
  have hl : rows'.length = T.rows.length := by have := congrArg List.length n; rwa [List.length_map, List.length_map] at this
  have key : ∀ (i : Nat) r, rows'[i]? = some r → ∃ r', T.rows[i]? = some r' ∧ r'.1 = r.1 := fun i r e => by
    have h3 : (rows'.map (fun r => r.1))[i]? = some r.1 := by rw [List.getElem?_map, e]; rfl
    rw [n, List.getElem?_map] at h3
    obtain ⟨r', h4, h5⟩ := Option.map_eq_some_iff.mp h3
    exact ⟨r', h4, h5⟩
  refine ⟨by rw [upd_ne na]; exact h.ins, sqt_upd h.so h.nu im, by rw [upd_ne (Ne.symm n1)]; exact h.nx, by rw [upd_ne (Ne.symm n2)]; exact h.bf, ⟨ts, by rw [upd_ne (Ne.symm n3)]; exact h1, ⟨by rw [hl]; exact h2.len, fun i t r a b => ?_⟩⟩, upd_same, h.qd.upd n4, h.rd.upd n5, h.kn, h.kb, h.nd, h.ka, fun r hr => ?_⟩
  · obtain ⟨r', e1, e2⟩ := key i r b
    rw [← e2]
    exact sqt_upd (h2.at_ i t r' a e1) h.nu im
  · obtain ⟨i, hi, e⟩ := List.mem_iff_getElem.mp hr
    obtain ⟨r', e1, e2⟩ := key i r (by rw [List.getElem?_eq_getElem hi, e])
    rw [← e2]
    exact h.ra r' (List.mem_of_getElem? e1)
/-- a row more -/
theorem TbP.put (h : TbP K C A T H) (h1 : H A.pf = some (.lst (ts.map V.ref))) (h2 : Mks K H ts T.rows) {t : Addr} {zs : List Str} {x : Int} (ht : SqT K H t (zs.map V.str)) (az : Asc zs) :
    TbP K C A { T with rows := T.rows ++ [(zs, x)] } (L2.upd (L2.upd H A.pf (.lst (ts.map V.ref ++ [.ref t]))) A.pm (.lst (T.rows.map (fun r => V.int r.2) ++ [.int x]))) := by
  obtain ⟨n1, n2, n3, n4, n5⟩ := nd_pf h.nd
  obtain ⟨m1, m2, m3, m4, m5⟩ := nd_pm h.nd
  have im : ¬ Imm (fun _ => False) (.lst (ts.map V.ref)) := fun z => z
  have na : A.a ≠ A.pf := fun e => by have := h.ins; rw [e, h1] at this; cases this
  have nb : A.a ≠ A.pm := fun e => by have := h.ins; rw [e, h.nu] at this; cases this
  have e2 : L2.upd H A.pf (.lst (ts.map V.ref ++ [.ref t])) A.pm = some (.lst (T.rows.map fun r => V.int r.2)) := by rw [upd_ne m3]; exact h.nu
  have im2 : ¬ Imm (fun _ => False) (.lst (T.rows.map fun r => V.int r.2)) := fun z => z
  refine ⟨by rw [upd_ne nb, upd_ne na]; exact h.ins, sqt_upd (sqt_upd h.so h1 im) e2 im2, by rw [upd_ne (Ne.symm m1), upd_ne (Ne.symm n1)]; exact h.nx, by rw [upd_ne (Ne.symm m2), upd_ne (Ne.symm n2)]; exact h.bf, ⟨ts ++ [t], by rw [upd_ne n3, upd_same, List.map_append]; rfl, ⟨by rw [List.length_append, List.length_append, h2.len]; rfl, fun i u r a b => ?_⟩⟩,
    by rw [upd_same, List.map_append]; rfl, (h.qd.upd n4).upd m4, (h.rd.upd n5).upd m5, h.kn, h.kb, h.nd, h.ka, fun r hr => ?_⟩
  · rcases Nat.lt_trichotomy i ts.length with hi | hi | hi
    · rw [List.getElem?_append_left hi] at a
      rw [List.getElem?_append_left (by rw [← h2.len]; exact hi)] at b
      exact sqt_upd (sqt_upd (h2.at_ i u r a b) h1 im) e2 im2
    · rw [hi, List.getElem?_append_right (Nat.le_refl _)] at a
      rw [hi, h2.len, List.getElem?_append_right (Nat.le_refl _)] at b
      obtain rfl : t = u := by simpa using a
      obtain rfl : (zs, x) = r := by simpa using b
      exact sqt_upd (sqt_upd ht h1 im) e2 im2
    · rw [List.getElem?_append_right (by omega), List.getElem?_eq_none (by simp; omega)] at a
      cases a
  · rcases List.mem_append.mp hr with hr | hr
    · exact h.ra r hr
    · rw [List.mem_singleton.mp hr]; exact az
end
/-- a table -/
def tbR {Γ : Gm} (C : Addr) (A : TAd) (T : Tb) : RS (E1 Γ) := ⟨A.fp, TbP Γ.K C A T, TbP.loc (fun z => z), false⟩
section
variable {Γ : Gm} {C : Addr} {A : TAd} {T T' : Tb} {H0 H H' : Hp} {S0 : List Addr} {F : List (PF (E1 Γ))} {R R' : List (RS (E1 Γ))}
theorem SS.tb (s : SS (E1 Γ) H0 S0 H F R) (m : tbR C A T ∈ R) : TbP Γ.K C A T H := s.r _ m
/-- the table is changed -/
theorem SS.tbU (s : SS (E1 Γ) H0 S0 H F R) (p : Pick R (tbR C A T) R' (tbR C A T')) (f : Fr A.fp H H') (h : TbP Γ.K C A T' H') : SS (E1 Γ) H0 S0 H' F R' :=
  s.upd p rfl f h h.nd (fun a h => .inl h) h.cells
/-- at the entry: a table -/
theorem SS.tb1 (h : TbP Γ.K C A T H) : SS (E1 Γ) H A.fp H [] [tbR C A T] := by
  have s := SS.start (E := E1 Γ) (F := []) (R := [tbR C A T]) (H := H) (fun _ h => nomatch h) (fun x hx => by
    cases hx with
    | head => exact h
    | tail _ z => cases z) (by show (A.fp ++ []).Nodup; rw [List.append_nil]; exact h.nd) (fun a ha => h.cells a (by have : a ∈ A.fp ++ [] := ha; rwa [List.append_nil] at this))
  have e : ows [tbR (Γ := Γ) C A T] = A.fp := List.append_nil _
  rw [e] at s
  exact s
end
end G
/-! own len(x), x[i], x[i] = v; dicts locked for a walk -/
namespace G
open PySem PySem.Spec PyProof.Rows L2
/-- x[i] of an own instance -/
def XR (X : Cx) (r : R2) : Prop := ∀ (value slice : Expr) (pins : List (Addr × Obj)) (s : Shared) (σ : L2.St) (H : Hp) (x y : V) (v u : Value) (Q : VK), Inv X pins σ H s → RelV x v → RelV y u → r x y H Q →
  (subscripted slice true v u = runValue (.builtin "lifetime.subscript" ⟨[v, u], []⟩)) → wpAny (model X.prog X.w) X.A (subscriptTail value slice v u) (EP X pins σ Q) X.xe s
def WY (Γ : Gm) : R2 := fun x y H Q => ∃ r, (∀ X, Good Γ X → XR X r) ∧ r x y H Q
section
variable {Γ : Gm} {X : Cx} {a b : Expr} {ta tb : TE} {pos : Pos}
theorem WY.ok (g : Good Γ X) : XR X (WY Γ) := fun value slice pins s σ H x y v u Q I rx ry ⟨_, h, q⟩ hs => h X g value slice pins s σ H x y v u Q I rx ry q hs
theorem pe_ixO {r : R2} (hr : XR X r) (ha : PE X a ta) (hb : PE X b tb) (hs : ∀ v u, subscripted b true v u = runValue (.builtin "lifetime.subscript" ⟨[v, u], []⟩)) : PE X (.Subscript a b pos) (tOp r ta tb) := by
  refine ⟨fun pins s σ H Q I h => ?_⟩
  refine Subscript_ (thn (ha.run pins s σ H _ I h) fun v s1 ⟨x, H1, I1, rx, q1⟩ => thn (hb.run pins s1 σ H1 _ I1 q1) fun u s2 ⟨y, H2, I2, ry, q2⟩ => ?_)
  exact hr a b pins s2 σ H2 x y v u Q I2 rx ry q2 (hs _ _)
end
section
variable {Γ : Gm} {C a dx : Addr} {fs : List (Str × V)} {H : Hp} {Q : VK} {n l : Nat} {sp : Sp} {E : XK} {y : V}
theorem wy_own (M : Mt Γ CX0 n C "__getitem__" sp []) (fn : ∀ f, Meth Γ.K C "__getitem__" f → PySem.W.fnIn Γ.K f = true) (hn : n + 1 ≤ l) (ha : H a = some (.ins C dx fs)) (q : sp [.ref a, y] H Q E) : WY (Γ.at l) (.ref a) y H Q :=
  ⟨fun x y H Q => ∃ a dx fs, x = .ref a ∧ H a = some (.ins C dx fs) ∧ sp [.ref a, y] H Q E, fun X g value slice pins s σ H x y v u Q I rx ry ⟨a, dx, fs, ex, ha, q⟩ hs => by
    subst ex
    obtain rfl : v = Value.ref a := rx
    obtain ⟨P, w, K, mg, base, lv⟩ := Γ
    obtain ⟨h1, h2, h3, h4, h5, _, hr⟩ := g
    simp only at h1 h2 h3 h4 h5 hr
    subst h1 h2 h3 h4 h5
    obtain ⟨f, fd, ps, ds, F, c, hm, hbi, hd⟩ := M.ex
    obtain ⟨od, J⟩ := own_at I ha
    obtain ⟨m, hF⟩ := I.fr
    exact PySem.W.sub_K hF I.ok.mod.kin J hm.at_ (fn f hm) hm.fn (run_in1 (us := [.ref a, u]) (vs := [.ref a, y]) F (hr.mono hn) hbi hd passE I (.cons rfl (.cons ry .nil)) q) hs, a, dx, fs, rfl, ha, q⟩
theorem wc_lenO (M : Mt Γ CX0 n C "__len__" sp []) (hn : n + 1 ≤ l) (ha : H a = some (.ins C dx fs)) (q : sp [.ref a] H (fun r H' => ∃ i : Int, r = .int i ∧ 0 ≤ i ∧ i < 2 ^ 63 ∧ Q (.int i) H') E) : WC (Γ.at l) (.builtin "len") [.ref a] H Q :=
  ⟨fun xs H Q => ∃ a dx fs, xs = [.ref a] ∧ H a = some (.ins C dx fs) ∧ sp [.ref a] H (fun r H' => ∃ i : Int, r = .int i ∧ 0 ≤ i ∧ i < 2 ^ 63 ∧ Q (.int i) H') E, fun X g pins s σ H xs us Q I r ⟨a, dx, fs, ex, ha, q⟩ => by
    subst ex
    obtain ⟨u, rfl, rx⟩ := vals1 r
    obtain rfl : u = Value.ref a := rx
    obtain ⟨P, w, K, mg, base, lv⟩ := Γ
    obtain ⟨h1, h2, h3, h4, h5, _, hr⟩ := g
    simp only at h1 h2 h3 h4 h5 hr
    subst h1 h2 h3 h4 h5
    obtain ⟨f, fd, ps, ds, F, c, hm, hbi, hd⟩ := M.ex
    obtain ⟨od, J⟩ := own_at I ha
    obtain ⟨m, hF⟩ := I.fr
    refine PySem.W.len_K hF I.ok.mod.kin J hm.at_ hm.fn ?_
    refine wpAny_mono (run_in1 (us := [.ref a]) (vs := [.ref a]) F (hr.mono hn) hbi hd passE I (.cons rfl .nil) q) (fun w s' z => ?_) fun _ _ x => x
    obtain ⟨z', H', I', rz, i, rfl, i0, i1, qz⟩ := z
    obtain ⟨t, rfl⟩ := rz
    exact ⟨⟨i0, i1⟩, .int i, H', I'.tok _, ⟨_, rfl⟩, qz⟩, a, dx, fs, rfl, ha, q⟩
theorem wp_own {i v : V} {Q : Hp → Prop} (M : Mt Γ CX0 n C "__setitem__" sp []) (nq : PySem.W.noSeq Γ.K C = true) (hn : n ≤ l) (ha : H a = some (.ins C dx fs)) (q : sp [.ref a, i, v] H (fun _ H' => Q H') E) : WP (Γ.at l) (.ref a) i v H Q :=
  ⟨fun o i v H Q => ∃ a dx fs, o = .ref a ∧ H a = some (.ins C dx fs) ∧ sp [.ref a, i, v] H (fun _ H' => Q H') E, fun X g pins s σ H o i v ov iv u Q I ro ri rv ⟨a, dx, fs, ex, ha, q⟩ => by
    subst ex
    obtain rfl : ov = Value.ref a := ro
    obtain ⟨P, w, K, mg, base, lv⟩ := Γ
    obtain ⟨h1, h2, h3, h4, h5, _, hr⟩ := g
    simp only at h1 h2 h3 h4 h5 hr
    subst h1 h2 h3 h4 h5
    obtain ⟨f, fd, ps, ds, F, c, hm, hbi, hd⟩ := M.ex
    obtain ⟨od, J⟩ := own_at I ha
    obtain ⟨m, hF⟩ := I.fr
    refine PySem.W.ksp_setItem hF I.ok.mod.kin J nq hm.at_ hm.fn ?_
    refine wpAny_mono (run_fn (us := [.ref a, iv, u]) (vs := [.ref a, i, v]) F (hr.mono hn) hbi hd passE I (.cons rfl (.cons ri (.cons rv .nil))) q) (fun w s' z => ?_) fun _ _ x => x
    obtain ⟨z', H', I', rz, qz⟩ := z
    exact ⟨H', I', qz⟩, a, dx, fs, rfl, ha, q⟩
end
/-! ### locks -/
def tLockN : Nat → TS → TS
  | 0, t => t
  | n + 1, t => tLock (tLockN n t)
def tLocks (t : TS) : TS := fun D σ H => ∃ n, tLockN n t D σ H
theorem ps_lockN {X : Cx} {st : Stmt} {t : TS} (h : PS X st t) : ∀ n, PS X st (tLockN n t)
  | 0 => h
  | n + 1 => ps_lock (ps_lockN h n)
theorem ps_locks {X : Cx} {st : Stmt} {t : TS} (h : PS X st t) : PS X st (tLocks t) :=
  ⟨fun pins s σ H D I ⟨n, hw⟩ => (ps_lockN h n).run pins s σ H D I hw⟩
/-- the dicts at qs are locked while t runs; behind it they stand as before -/
theorem locks_go {t : TS} {D : Ends} {σ : L2.St} : ∀ (qs : List Addr) (ms : List Mp) (H : Hp), Dks H qs ms → qs.Nodup →
    (∀ (HL : Hp) (D' : Ends), (∀ (i : Nat) (q : Addr) (m : Mp), qs[i]? = some q → ms[i]? = some m → ∃ od, HL q = some (.frz od (.dK (mpK m)))) → (∀ a, a ∉ qs → HL a = H a) →
      (∀ σ' H', Same HL H' → (∀ H'', (∀ a, a ∉ qs → H'' a = H' a) → Dks H'' qs ms → D.nx σ' H'') → D'.nx σ' H') → t D' σ HL) → tLockN qs.length t D σ H
  | [], ms, H, d, nd, k => k H D (fun i q m h => by simp at h) (fun a _ => rfl) fun σ' H' s h => h H' (fun a _ => rfl) ⟨d.len, fun i q m h => by simp at h⟩
  | q :: qs, ms, H, d, nd, k => by
    obtain ⟨m, ms', rfl⟩ : ∃ m ms', ms = m :: ms' := by
      have := d.len
      cases ms with
      | nil => simp at this
      | cons m ms' => exact ⟨_, _, rfl⟩
    have n := List.nodup_cons.mp nd
    have hq : H q = some (.dK (mpK m)) := d.at_ 0 q m rfl rfl
    refine ⟨q, .dK (mpK m), hq, by first | trivial | exact rfl | decide, fun od => ?_⟩
    refine locks_go qs ms' (upd H q (.frz od (.dK (mpK m)))) ⟨by have := d.len; simpa using this, fun i p m' h1 h2 => ?_⟩ n.2 fun HL D' hl hk hd => ?_
    · have hp : p ≠ q := fun e => n.1 (by rw [← e]; exact List.mem_of_getElem? h1)
      rw [upd_ne hp]
      exact d.at_ (i + 1) p m' h1 h2
    · have hLq : HL q = some (.frz od (.dK (mpK m))) := by rw [hk q n.1]; exact upd_same
      refine k HL D' (fun i p m' h1 h2 => ?_) (fun a ha => ?_) fun σ' H' s h => hd σ' H' s fun H'' h1 h2 => ?_
      · cases i with
        | zero =>
          obtain rfl : q = p := by simpa using h1
          obtain rfl : m = m' := by simpa using h2
          exact ⟨od, hLq⟩
        | succ i => exact hl i p m' h1 h2
      · rw [hk a (fun z => ha (.tail _ z)), upd_ne (fun e => ha (by rw [e]; exact .head _))]
      · have e1 : H'' q = some (.frz od (.dK (mpK m))) := by rw [h1 q n.1]; exact s _ _ hLq
        refine ⟨e1, h _ (fun a ha => ?_) ⟨d.len, fun i p m' g1 g2 => ?_⟩⟩
        · rw [upd_ne (fun e => ha (by rw [e]; exact .head _))]
          exact h1 a (fun z => ha (.tail _ z))
        · cases i with
          | zero =>
            obtain rfl : q = p := by simpa using g1
            obtain rfl : m = m' := by simpa using g2
            exact upd_same
          | succ i =>
            have g1' : qs[i]? = some p := g1
            have hp : p ≠ q := fun e => n.1 (by rw [← e]; exact List.mem_of_getElem? g1')
            rw [upd_ne hp]
            exact h2.at_ i p m' g1' g2
end G
namespace G
open PySem PySem.Spec PyProof.Rows L2
/-! ### a walk over a list or a tuple -/
def SqB (K : PySem.W.Frag) (H : Hp) (a : Addr) (xs : List V) (b : Bool) : Prop := cond b (SqL K H a xs) (SqT K H a xs)
def Itb (K : PySem.W.Frag) (a : Addr) (b : Bool) : It := cond b (Itl K a) (Itt K a)
def iLT (K : PySem.W.Frag) (te : TE) : TI := fun σ H R => ∃ b : Bool, te σ H fun x H1 => ∃ a, x = .ref a ∧ (∃ xs, SqB K H1 a xs b) ∧ R (Itb K a b) H1
theorem pi_lt {Γ : Gm} {X : Cx} {tg e : Expr} {te : TE} (g : Good Γ X) (h : PE X e te) : PI X tg e (iLT Γ.K te) := by
  refine ⟨fun pins s σ H R I ⟨b, hw⟩ => ?_⟩
  cases b with
  | true => exact (pi_l g h).run pins s σ H R I hw
  | false => exact (pi_t g h).run pins s σ H R I hw
theorem SqB.same {K : PySem.W.Frag} {H H' : Hp} {a : Addr} {xs : List V} {b : Bool} (h : SqB K H a xs b) (s : Same H H') : SqB K H' a xs b := by
  cases b with
  | true => exact (Fr.of (S := []) s).sql h List.not_mem_nil
  | false => exact (Fr.of (S := []) s).sqt h List.not_mem_nil
theorem lp_lt {a : Addr} {xs : List V} {g : TG} {tb : TS} {D : Ends} {σ : L2.St} {H : Hp} {K : PySem.W.Frag} (b : Bool) (Pv : Nat → L2.St → Hp → Prop) (h0 : Pv 0 σ H) (hl : ∀ i σ H, i ≤ xs.length → Pv i σ H → SqB K H a xs b)
    (hs : ∀ i x σ H, xs[i]? = some x → Pv i σ H → g x σ H fun σ2 H2 => tb ⟨Pv (i + 1), D.rt, D.nx, Pv (i + 1)⟩ σ2 H2) (hd : ∀ σ H, Pv xs.length σ H → D.nx σ H) : LP (Itb K a b) g tb D σ H := by
  cases b with
  | true => exact lp_list Pv h0 hl hs hd
  | false => exact lp_tup Pv h0 hl hs hd
theorem _root_.List.set_getElem?_self' {α : Type} {l : List α} {i : Nat} {a : α} (h : l[i]? = some a) : l.set i a = l := by
  refine List.ext_getElem? fun j => ?_
  rw [List.getElem?_set]
  split
  · rename_i e
    subst e
    have hi := (List.getElem?_eq_some_iff.mp h).1
    rw [if_pos hi, h]
  · rfl
/-! ### reading lists of a table -/
theorem at_nat {xs : List V} {i : Nat} {v : V} (h : xs[i]? = some v) : atI xs (i : Int) = some v := atI_nat h
theorem Mks.get {K : PySem.W.Frag} {H : Hp} {ts : List Addr} {rows : List (List Str × Int)} (h : Mks K H ts rows) {i : Nat} {r : List Str × Int} (e : rows[i]? = some r) : ∃ t, ts[i]? = some t ∧ SqT K H t (r.1.map V.str) := by
  have hi := (List.getElem?_eq_some_iff.mp e).1
  obtain ⟨t, ht⟩ : ∃ t, ts[i]? = some t := ⟨_, List.getElem?_eq_getElem (by rw [h.len]; exact hi)⟩
  exact ⟨t, ht, h.at_ i t r ht e⟩
theorem Mks.set {K : PySem.W.Frag} {H : Hp} {ts : List Addr} {rows : List (List Str × Int)} (h : Mks K H ts rows) {i : Nat} {t : Addr} {r : List Str × Int} (e : SqT K H t (r.1.map V.str)) : Mks K H (ts.set i t) (rows.set i r) := by
  refine ⟨by rw [List.length_set, List.length_set]; exact h.len, fun j u v a b => ?_⟩
  rw [List.getElem?_set] at a b
  by_cases hij : i = j
  · rw [if_pos hij] at a b
    split at a
    · split at b
      · obtain rfl := Option.some.inj a
        obtain rfl := Option.some.inj b
        exact e
      · cases b
    · cases a
  · rw [if_neg hij] at a b
    exact h.at_ j u v a b
/-- e.f of a table -/
theorem wa_tb {Γ : Gm} {l : Nat} {C : Addr} {A : TAd} {T : Tb} {H : Hp} {f : Str} {v : V} {Q : VK} (c : Cls Γ.K C) (k : NoAttr Γ.K C f) (h : TbP Γ.K C A T H) (e : A.fs.lookup f = some v) (q : Q v H) : WA (Γ.at l) f (.ref A.a) H Q := wa_fld (Γ := Γ.at l) c k h.ins e q
/-- what the text has of the class of tables -/
structure KT (Γ : Gm) (C : Addr) : Prop where
  k : Kls Γ C
  mg : Γ.mg "Table" = some (.ref C)
  n1 : NoAttr Γ.K C "sorts"
  n2 : NoAttr Γ.K C "nexts"
  n3 : NoAttr Γ.K C "befores"
  n4 : NoAttr Γ.K C "facts"
  n5 : NoAttr Γ.K C "numbers"
  sq : PySem.W.noSeq Γ.K C = true
  gi : ∀ f, Meth Γ.K C "__getitem__" f → PySem.W.fnIn Γ.K f = true
section
variable {Γ : Gm} {C : Addr} {A : TAd} {T : Tb} {H : Hp} {Q : VK} {l : Nat}
theorem KT.so (t : KT Γ C) (h : TbP Γ.K C A T H) (q : Q (.ref A.ps) H) : WA (Γ.at l) "sorts" (.ref A.a) H Q := wa_tb t.k.cls t.n1 h (by rfl) q
theorem KT.nx (t : KT Γ C) (h : TbP Γ.K C A T H) (q : Q (.ref A.pn) H) : WA (Γ.at l) "nexts" (.ref A.a) H Q := wa_tb t.k.cls t.n2 h (by rfl) q
theorem KT.bf (t : KT Γ C) (h : TbP Γ.K C A T H) (q : Q (.ref A.pb) H) : WA (Γ.at l) "befores" (.ref A.a) H Q := wa_tb t.k.cls t.n3 h (by rfl) q
theorem KT.fa (t : KT Γ C) (h : TbP Γ.K C A T H) (q : Q (.ref A.pf) H) : WA (Γ.at l) "facts" (.ref A.a) H Q := wa_tb t.k.cls t.n4 h (by rfl) q
theorem KT.nu (t : KT Γ C) (h : TbP Γ.K C A T H) (q : Q (.ref A.pm) H) : WA (Γ.at l) "numbers" (.ref A.a) H Q := wa_tb t.k.cls t.n5 h (by rfl) q
/-- a method found at a table -/
theorem tb_meth {n : Nat} {m : Str} {sp : Sp} {P : Prop} (h : TbP Γ.K C A T H) (l : A.fs.lookup m = none) (k : ∀ dx, H A.a = some (.ins C dx A.fs) → A.fs.lookup m = none → P) : P := k A.dx h.ins l
end
end G
namespace L2
open PySem PySem.Spec PyProof.Rows
section
variable {P : Program} {w : World} {A : Around} {E : Value → Shared → Prop} {s : Shared}
theorem call_set_strsT {l : Addr} {items : Array Value} (ns : List Str) {Q : Value → Shared → Prop} (hh : A.handled = none) (hl : s.heap.IsTuple l items) (hit : StrsAre items.toList ns) (hb : ns.length + 1 < scanBound)
    (h : ∀ (h' : Heap) (tk : Nat), SetS P w h' s.heap.objs.size (metS ns.reverse) → (∀ b o, s.heap.get? b = some o → h'.get? b = some o) → Q (.ref s.heap.objs.size) { s with heap := h', toks := tk }) :
    wpAny (model P w) A (call (.type "set") [.ref l]) Q E s := by
  have hisz : items.size = ns.length := by
    have q := hit.length
    rw [Array.length_toList] at q
    exact q
  obtain ⟨c, tl, hmro⟩ := F.called_set.mro
  have hmade := F.called_set.made
  have hsub := F.called_set.sub
  refine wpAny_call (codeAny_of_tree ?_)
  show wpAny _ _ (callAny (.type "set") _) _ _ _
  refine wpAny_pure ⟨Code.quiet_builtin _ (by decide +kernel), codeAny_builtin F.entry_type_call ?_⟩
  rw [Around.under_plain (weight_type_call_type "set" [.ref l] []) rfl]
  have h1 := F.called_set.notType
  have h2 := F.called_set.canCreate
  have hct := F.typeCall_set_1 (.ref l)
  repeat (any_goals (first | assumption | wp_step))
  refine codeAny_mono (code_set_led1 (.ref l) (E := E) (Q₁ := fun obj s₁ => obj = .ref s.heap.objs.size ∧ s₁ = { s with heap := s.heap.push { cls := .type "set", dict := none, data := .set #[] 0 (.fresh 0 0 (!w.params.followText "set-order")) } }) ⟨rfl, rfl⟩) fun r s₁ hr => ?_
  cases r with
  | error e => exact hr
  | ok fl =>
    cases fl with
    | ret obj =>
      obtain ⟨rfl, rfl⟩ := hr
      have hS : (s.heap.push { cls := .type "set", dict := none, data := .set #[] 0 (.fresh 0 0 (!w.params.followText "set-order")) }).get? s.heap.objs.size = some { cls := .type "set", dict := none, data := .set #[] 0 (.fresh 0 0 (!w.params.followText "set-order")) } := Heap.get?_push_size _ rfl
      have hT : Shared.TypeIs { s with heap := s.heap.push { cls := .type "set", dict := none, data := .set #[] 0 (.fresh 0 0 (!w.params.followText "set-order")) } } (.ref s.heap.objs.size) "set" := ⟨_, hS, rfl⟩
      have hli := F.called_set.init.lookup
      have hbi := F.called_set.init.bind (.ref s.heap.objs.size)
      repeat (any_goals (first | assumption | wp_step))
      refine codeAny_mono (codeAny_call_builtin (R := wants (fun r s₂ => r = .none ∧ ∃ h' tk, s₂ = { s with heap := h', toks := tk } ∧ SetS P w h' s.heap.objs.size (metS ns.reverse) ∧
          (∀ b o, s.heap.get? b = some o → h'.get? b = some o)) E) F.called_set.init.plain F.entry_set_init (check_set_init_1 hT ?_)) fun r₂ s₂ hr₂ => ?_
      · obtain ⟨ol, hol, hcl, nl, hdl⟩ := hl
        obtain ⟨ocls, odict, odata, oslots⟩ := ol
        simp only at hcl hdl
        subst hcl; subst hdl
        have hol' : (s.heap.push { cls := .type "set", dict := none, data := .set #[] 0 (.fresh 0 0 (!w.params.followText "set-order")) }).get? l = some { cls := .type "tuple", dict := odict, data := .seq items nl, slots := oslots } := Heap.get?_push_of_some _ hol
        have hsls := F.sub_tuple_set
        have hslf := F.sub_tuple_frozenset
        have hne : (Value.type "tuple" == Value.type "dict") = false := by decide
        have hl1 : (s.heap.push { cls := .type "set", dict := none, data := .set #[] 0 (.fresh 0 0 (!w.params.followText "set-order")) }).IsTuple l items := ⟨_, hol', rfl, nl, rfl⟩
        unfold Builtin.«set.__init__» noKeywords Builtin.Frozenset.updateFrom
        generalize hPI : pyIter = PI
        wp_walk
        subst hPI
        refine wpAny_pyIter_tuple hl1 ?_
        refine wpAny_bind (wpAny_runValue ?_)
        have hlS : l < s.heap.objs.size := Heap.lt_size hol
        have hh3 : A.in1.in1.in1.handled = none := by simp [hh]
        have hneI : l ≠ (s.heap.push { cls := .type "set", dict := none, data := .set #[] 0 (.fresh 0 0 (!w.params.followText "set-order")) }).objs.size := by
          rw [Heap.size_push]; exact Nat.ne_of_lt (Nat.lt_succ_of_lt hlS)
        have hSf : s.heap.objs.size ∉ [(s.heap.push { cls := .type "set", dict := none, data := .set #[] 0 (.fresh 0 0 (!w.params.followText "set-order")) }).objs.size, l] := by
          rw [Heap.size_push]; simp only [List.mem_cons, List.mem_singleton, List.not_mem_nil, or_false, not_or]
          exact ⟨Nat.ne_of_lt (Nat.lt_succ_self _), Nat.ne_of_gt hlS⟩
        have hval : ∀ (i : Nat) (v : Value), items[i]? = some v → ∃ k t, ns[i]? = some k ∧ v = .str k t := fun i v hv => by
          have q : items.toList[i]? = some v := by rw [Array.getElem?_toList]; exact hv
          have hi : i < ns.length := by rw [← hisz]; rw [← Array.length_toList]; exact (List.getElem?_eq_some_iff.mp q).1
          obtain ⟨t, ht⟩ := hit.get i _ (List.getElem?_eq_getElem hi)
          exact ⟨_, t, List.getElem?_eq_getElem hi, Option.some.inj (q.symm.trans ht)⟩
        refine setS_update ((Walks.tuple hh3 _ l hneI items).toS) s.heap.objs.size hSf ns hisz hb hval (items.size - 0) 0 _ (by omega) (Nat.zero_le _)
          ⟨⟨_, Heap.get?_push_size _ rfl, rfl, rfl⟩, (hl1.push _)⟩ (setS_fresh (Heap.get?_push_of_some _ hS)) ?hR
        case hR =>
          intro s' hm hS'
          have old : ∀ b o, s.heap.get? b = some o → s'.heap.get? b = some o := fun b o e => by
            have hb' : b < s.heap.objs.size := Heap.lt_size e
            refine hm.heap b o (fun z => ?_) (Heap.get?_push_of_some _ (Heap.get?_push_of_some _ e))
            rcases List.mem_cons.mp z with z | z
            · exact Nat.ne_of_lt hb' z
            · rw [Heap.size_push] at z
              exact Nat.ne_of_lt (Nat.lt_succ_of_lt hb') (List.mem_singleton.mp z)
          obtain ⟨h', g2, d', tk', os'⟩ := s'
          have eg : g2 = s.gens := hm.gens
          have ed : d' = s.drawn := hm.drawn
          have eo : os' = s.os := hm.os
          subst eg; subst ed; subst eo
          show wpAny _ _ _ _ _ _
          refine wpAny_pure ?_
          show wpAny _ _ (ret Value.none) _ _ _
          exact wpAny_pure ⟨rfl, h', tk', rfl, hS', old⟩
      · cases r₂ with
        | error e => exact hr₂
        | ok fl₂ =>
          cases fl₂ with
          | ret r =>
            obtain ⟨rfl, h', tk, rfl, hS', hk'⟩ := hr₂
            repeat (any_goals (first | assumption | wp_step))
            exact h _ _ hS' hk'
          | _ => exact hr₂.elim
    | _ => exact hr.elim
end
end L2
/-! sorted(list of data); set(tuple of texts); comprehensions of two clauses -/
namespace G
open PySem PySem.Spec PyProof.Rows L2
theorem each_rel : ∀ (es : List (V × PyData)) (its : List Value), Vals (es.map (·.1)) its → PySem.W.EachIs (fun v (b : V × PyData) => RelV b.1 v) its es
  | [], [], .nil => .nil
  | _ :: es, _ :: its, .cons r rs => .cons r (each_rel es its rs)
theorem each_back : ∀ {es : List (V × PyData)} {its : List Value}, PySem.W.EachIs (fun v (b : V × PyData) => RelV b.1 v) its es → Vals (es.map (·.1)) its
  | [], [], .nil => .nil
  | _ :: es, _ :: its, .cons r rs => .cons r (each_back rs)
theorem each_reads {X : Cx} {pins : List (Addr × Obj)} {σ : L2.St} {H : Hp} {s : Shared} (I : Inv X pins σ H s) : ∀ (es : List (V × PyData)) (its : List Value), Vals (es.map (·.1)) its → (∀ e ∈ es, Dp X.K H e.1 e.2) → PySem.W.EachIs (fun v (b : V × PyData) => ∃ as, Reads s.heap v b.2 as) its es
  | [], [], .nil, _ => .nil
  | e :: es, u :: its, .cons r rs, h => .cons (Dp.reads I e.2 e.1 u (h e (.head _)) r) (each_reads I es its rs fun x hx => h x (.tail _ hx))
def rSortD (K : PySem.W.Frag) : List V → Hp → VK → Prop := fun vs H Q => ∃ (a : Addr) (es : List (V × PyData)), vs = [V.ref a] ∧ SqL K H a (es.map (·.1)) ∧ (∀ e ∈ es, Dp K H e.1 e.2) ∧ PySem.W.AllAlike (es.map (·.2)) ∧ PySem.W.Sortable (es.map (·.2)) ∧ (∀ e ∈ es, e.2.depth ≤ 40) ∧
  ∀ p, H p = none → Q (.ref p) (upd H p (.lst ((es.mergeSort (PySem.W.dataLe false (·.2))).map (·.1))))
theorem cr_sortD {X : Cx} (hu : X.A.units + 64 < cLine) : CallR X (.builtin "sorted") (rSortD X.K) := by
  intro pins s σ H vs us Q I r h
  obtain ⟨a, es, rfl, hs, hd, ha, hk, hz, q⟩ := h
  obtain ⟨its, rv, hl, hz2⟩ := I.list hs
  rw [Vals.ref1 r]
  refine PySem.W.sorted_data (enc := (·.2)) (R := fun v (b : V × PyData) => RelV b.1 v) hl.isList (each_rel es its rv) (each_reads I es its rv hd) ha hk (by rw [List.length_map] at hz2; exact hz2) (fun b hb => by have := hz b hb; omega) fun out h1 h2 => ?_
  have hv := each_back h2
  obtain ⟨ep, he'⟩ := PyProof.Rows.sortedAll_at s.heap its out.toArray
  have hlen : ((es.mergeSort (PySem.W.dataLe false (·.2))).map (·.1)).length ≤ sizeLine := by
    rw [List.length_map, List.length_mergeSort]
    rw [List.length_map] at hz2
    exact hz2
  exact ⟨.ref _, upd H (s.heap.objs.size + 1) (.lst ((es.mergeSort (PySem.W.dataLe false (·.2))).map (·.1))), I.laid (t' := s.toks) (fun _ _ => PyProof.Rows.sortedAll_old) (Nat.le_succ _) ⟨hlen, out, ep, hv, he'⟩, rfl, q _ (I.hok.fresh (Nat.le_succ _))⟩
section
variable {Γ : Gm} {H : Hp} {Q : VK}
theorem wc_sortD {a : Addr} {es : List (V × PyData)} (hs : SqL Γ.K H a (es.map (·.1))) (hd : ∀ e ∈ es, Dp Γ.K H e.1 e.2) (ha : PySem.W.AllAlike (es.map (·.2))) (hk : PySem.W.Sortable (es.map (·.2))) (hz : ∀ e ∈ es, e.2.depth ≤ 40)
    (q : ∀ p, H p = none → Q (.ref p) (upd H p (.lst ((es.mergeSort (PySem.W.dataLe false (·.2))).map (·.1))))) : WC Γ (.builtin "sorted") [.ref a] H Q :=
  ⟨rSortD Γ.K, fun X g => (by have := cr_sortD (X := X) (Nat.lt_of_le_of_lt (Nat.le_refl _) g.hu64); rw [g.K] at this; exact this), a, es, rfl, hs, hd, ha, hk, hz, q⟩
def rSetT (K : PySem.W.Frag) (P : Program) (w : World) : List V → Hp → VK → Prop := fun xs H Q => ∃ (l : Addr) (ns : List Str), xs = [V.ref l] ∧ SqT K H l (ns.map V.str) ∧ ns.length < 3000 ∧ ∀ a, H a = none → Q (.ref a) (upd H a (SetSO P w a (metS ns.reverse)))
theorem cr_setT {X : Cx} (hc : X.calm = true) : CallR X (.type "set") (rSetT X.K X.prog X.w) := by
  intro pins s σ H xs us Q I r h
  obtain ⟨l, ns, rfl, hl, hf, q⟩ := h
  rw [Vals.ref1 r]
  obtain ⟨its, rv, pl, hz⟩ := I.tuple hl
  have hn : H s.heap.objs.size = none := I.hok.fresh (Nat.le_refl _)
  refine call_set_strsT (P := X.prog) (w := X.w) ns (I.ok.hd hc) (show s.heap.IsTuple l its.toArray from pl) (by simpa using rv.strs) (by unfold scanBound; omega) fun h' tk R k => ?_
  exact ⟨.ref s.heap.objs.size, upd H s.heap.objs.size (SetSO X.prog X.w s.heap.objs.size (metS ns.reverse)), I.laid (t' := tk) k (Nat.le_refl _) (setSO_new R), rfl, q _ hn⟩
theorem wc_setT {l : Addr} {ns : List Str} (m : SqT Γ.K H l (ns.map V.str)) (hl : ns.length < 3000) (q : ∀ a, H a = none → Q (.ref a) (upd H a (SetSO Γ.P Γ.w a (metS ns.reverse)))) : WC Γ (.type "set") [.ref l] H Q :=
  ⟨rSetT Γ.K Γ.P Γ.w, fun X g => (by have := cr_setT (X := X) g.calm; rw [g.K, g.P, g.w] at this; exact this), l, ns, rfl, m, hl, q⟩
end
/-! ### two clauses -/
def LI (J1 : It) (g1 : TG) (tt1 : TT) (te : TE) (vs1 : List Nat) (σ2 : L2.St) (D : Addr) (N : Hp → Prop) (H4 : Hp) : Prop := ∃ W1 : Nat → Nat → Hp → Prop, (∃ m, W1 0 m H4) ∧ ∀ j k H, W1 j k H →
      (J1.stop j H ∧ N H) ∨ (J1.go j H ∧ ∃ Nx1 : Hp → Prop, (∀ H', Nx1 H' → ∃ k', k' < k ∧ W1 (j + 1) k' H') ∧ ∀ x H', J1.yld j H x H' → g1 x (wipe σ2 vs1) H' fun σ3 H5 => wipe σ3 vs1 = wipe σ2 vs1 ∧ tt1 σ3 H5 fun b H6 =>
        if b = true then te σ3 H6 fun y H7 => ∃ acc, H7 D = some (.lst acc) ∧ acc.length < sizeLine ∧ Nx1 (upd H7 D (.lst (acc ++ [y]))) else Nx1 H6)
def LQ2 (J : It) (g : TG) (tt : TT) (wi1 : TI) (g1 : TG) (tt1 : TT) (te : TE) (vs vs1 : List Nat) (σ : L2.St) (D : Addr) (Q : VK) (H1 : Hp) : Prop := ∃ W : Nat → Nat → Hp → Prop, (∃ m, W 0 m (upd H1 D (.lst []))) ∧ ∀ i m H, W i m H →
  (J.stop i H ∧ Q (.ref D) H) ∨ (J.go i H ∧ ∃ Nx : Hp → Prop, (∀ H', Nx H' → ∃ m', m' < m ∧ W (i + 1) m' H') ∧ ∀ x H', J.yld i H x H' → g x (wipe σ vs) H' fun σ2 H2 => wipe σ2 vs = wipe σ vs ∧ tt σ2 H2 fun b H3 =>
    if b = true then wi1 σ2 H3 fun J1 H4 => LI J1 g1 tt1 te vs1 σ2 D Nx H4 else Nx H3)
theorem tLc2_eq {wi : TI} {g : TG} {tt : TT} {wi1 : TI} {g1 : TG} {tt1 : TT} {te : TE} {vs vs1 : List Nat} {σ : L2.St} {H : Hp} {Q : VK} : tLc2 wi g tt wi1 g1 tt1 te vs vs1 σ H Q = wi σ H fun J H1 => ∀ D, H1 D = none → LQ2 J g tt wi1 g1 tt1 te vs vs1 σ D Q H1 := rfl
section
variable {J J1 : It} {n : Nat} {G : Hp → Prop} {Y : Nat → Hp → V → Hp → Prop}
theorem li_it (w : Walk J1 n G Y) {g1 : TG} {tt1 : TT} {te : TE} {vs1 : List Nat} {σ2 : L2.St} {D : Addr} {N : Hp → Prop} {H4 : Hp} (Pv : Nat → Hp → Prop) (h0 : Pv 0 H4) (hG : ∀ i H, i ≤ n → Pv i H → G H)
    (hs : ∀ j x H H', j < n → Pv j H → Y j H x H' → g1 x (wipe σ2 vs1) H' fun σ3 H5 => wipe σ3 vs1 = wipe σ2 vs1 ∧ tt1 σ3 H5 fun b H6 =>
      br b (te σ3 H6 fun y H7 => ∃ acc, H7 D = some (.lst acc) ∧ acc.length < sizeLine ∧ Pv (j + 1) (upd H7 D (.lst (acc ++ [y])))) (Pv (j + 1) H6)) (hd : ∀ H, Pv n H → N H) : LI J1 g1 tt1 te vs1 σ2 D N H4 := by
  refine ⟨fun i m H => m = n - i ∧ i ≤ n ∧ Pv i H, ⟨n, by simp, Nat.zero_le _, h0⟩, ?_⟩
  rintro i m H ⟨rfl, hi, p⟩
  have q := hG i H hi p
  by_cases hlt : i < n
  · refine .inr ⟨w.goes i H hlt q, Pv (i + 1), fun H' p' => ⟨n - (i + 1), by omega, rfl, hlt, p'⟩, fun x H' y => ?_⟩
    have := hs i x H H' hlt p (w.yields i H x H' hlt q y)
    simp only [← br_eq] at this
    exact this
  · have e : i = n := by omega
    subst e
    exact .inl ⟨w.stops H q, hd H p⟩
theorem lq2_it (w : Walk J n G Y) {g : TG} {tt : TT} {wi1 : TI} {g1 : TG} {tt1 : TT} {te : TE} {vs vs1 : List Nat} {σ : L2.St} {D : Addr} {Q : VK} {H1 : Hp} (Pv : Nat → Hp → Prop) (h0 : Pv 0 (upd H1 D (.lst []))) (hG : ∀ i H, i ≤ n → Pv i H → G H)
    (hs : ∀ i x H H', i < n → Pv i H → Y i H x H' → g x (wipe σ vs) H' fun σ2 H2 => wipe σ2 vs = wipe σ vs ∧ tt σ2 H2 fun b H3 =>
      br b (wi1 σ2 H3 fun J1 H4 => LI J1 g1 tt1 te vs1 σ2 D (Pv (i + 1)) H4) (Pv (i + 1) H3)) (hd : ∀ H, Pv n H → Q (.ref D) H) : LQ2 J g tt wi1 g1 tt1 te vs vs1 σ D Q H1 := by
  refine ⟨fun i m H => m = n - i ∧ i ≤ n ∧ Pv i H, ⟨n, by simp, Nat.zero_le _, h0⟩, ?_⟩
  rintro i m H ⟨rfl, hi, p⟩
  have q := hG i H hi p
  by_cases hlt : i < n
  · refine .inr ⟨w.goes i H hlt q, Pv (i + 1), fun H' p' => ⟨n - (i + 1), by omega, rfl, hlt, p'⟩, fun x H' y => ?_⟩
    have := hs i x H H' hlt p (w.yields i H x H' hlt q y)
    simp only [← br_eq] at this
    exact this
  · have e : i = n := by omega
    subst e
    exact .inl ⟨w.stops H q, hd H p⟩
end
theorem walk_itemsF {d : Addr} {o : Obj} {kvs : List (Key × V)} : Walk (Iti d o kvs) kvs.length (fun H => H d = some (.frz o (.dK kvs))) (fun i H x H' => ∃ T k v, kvs[i]? = some (k, v) ∧ x = .ref T ∧ H T = none ∧ H' = upd H T (.tup [kV k, v])) :=
  ⟨fun i H hi q => ⟨q, hi⟩, fun H q => ⟨q, Nat.le_refl _⟩, fun i H x H' hi q y => y⟩
end G
/-! making a table -/
namespace G
open PySem PySem.Spec PyProof.Rows L2
theorem Pick.app {α : Type} {l t : List α} {r r' : α} : Pick (l ++ r :: t) r (l ++ r' :: t) r' := by
  induction l with
  | nil => exact .here
  | cons x l ih => exact .next ih
section
variable {E : Hv}
theorem fps_app (l t : List (RS E)) : fps (l ++ t) = fps l ++ fps t := by
  induction l with
  | nil => rfl
  | cons x l ih => rw [List.cons_append]; show x.fp ++ fps (l ++ t) = (x.fp ++ fps l) ++ fps t; rw [ih, List.append_assoc]
theorem ows_app (l t : List (RS E)) : ows (l ++ t) = ows l ++ ows t := by
  induction l with
  | nil => rfl
  | cons x l ih => rw [List.cons_append]; show (if x.ro then [] else x.fp) ++ ows (l ++ t) = ((if x.ro then [] else x.fp) ++ ows l) ++ ows t; rw [ih, List.append_assoc]
/-- cells alike -/
def cells (o : HO) (qs : List Addr) : List (RS E) := qs.map fun a => cellR a o
theorem fps_cells (o : HO) (qs : List Addr) : fps (cells (E := E) o qs) = qs := by
  induction qs with
  | nil => rfl
  | cons q qs ih => show [q] ++ fps (cells o qs) = q :: qs; rw [ih]; rfl
theorem ows_cells (o : HO) (qs : List Addr) : ows (cells (E := E) o qs) = qs := by
  induction qs with
  | nil => rfl
  | cons q qs ih => show [q] ++ ows (cells o qs) = q :: qs; rw [ih]; rfl
theorem mem_cells {o : HO} {qs : List Addr} {q : Addr} (h : q ∈ qs) : cellR (E := E) q o ∈ cells o qs := List.mem_map.mpr ⟨q, h, rfl⟩
/-- at the entry: one cell -/
theorem SS.cell1 {H : Hp} {p : Addr} {o : HO} (h : H p = some o) (n : ¬ Imm E.MC o) : SS E H [p] H [] [cellR p o] := SS.start (E := E) (F := []) (R := [cellR p o]) (fun _ h => nomatch h) (fun x hx => by
    cases hx with
    | head => exact h
    | tail _ z => cases z) (List.nodup_cons.mpr ⟨List.not_mem_nil, List.nodup_nil⟩) fun a ha => by
    cases ha with
    | head => exact ⟨_, h, n⟩
    | tail _ z => cases z
end
theorem kdK_snoc {ks : List Str} {qs : List Addr} {k : Str} {q : Addr} (h : ks.length = qs.length) : kdK (ks ++ [k]) (qs ++ [q]) = kdK ks qs ++ [(Sum.inr k, V.ref q)] := by
  unfold kdK
  rw [List.zip_append h, List.map_append]
  rfl
theorem valK_none {ks : List Str} {qs : List Addr} {k : Str} (h : k ∉ ks) : valV (kdK ks qs) (Sum.inr k) = none := by
  induction ks generalizing qs with
  | nil => rfl
  | cons k0 ks ih =>
    cases qs with
    | nil => rfl
    | cons q0 qs =>
      have hn : ¬ (Sum.inr k0 : Key) = Sum.inr k := fun e => h (by injection e with e; rw [e]; exact .head _)
      show valV ((Sum.inr k0, V.ref q0) :: kdK ks qs) (Sum.inr k) = _
      rw [valV_neg hn]
      exact ih fun z => h (.tail _ z)
theorem sqt_fr1 {K : PySem.W.Frag} {H H' : Hp} {x q C dx : Addr} {xs : List V} {fs : List (Str × V)} (h : SqT K H q xs) (f : Fr [x] H H') (hx : H x = some (.ins C dx fs)) : SqT K H' q xs := by
  rcases h with (h | ⟨o, h⟩) | h
  · exact .inl (.inl (f _ _ (fun z => by rw [List.mem_singleton.mp z, hx] at h; cases h) h))
  · exact .inl (.inr ⟨o, f _ _ (fun z => by rw [List.mem_singleton.mp z, hx] at h; cases h) h⟩)
  · exact .inr h
abbrev EC (Γ : Gm) (C : Addr) : Hv := ⟨Γ.K, fun c => c = C⟩
theorem ins_mut {Γ : Gm} {C dx : Addr} {fs : List (Str × V)} : ¬ Imm (EC Γ C).MC (.ins C dx fs) := fun h => h rfl
/-- the table as it stands once it is made -/
theorem made_tb {Γ : Gm} {C x dx q D1 D2 pf pm : Addr} {qs rs : List Addr} {ys : List Str} {H0 H : Hp} {F : List (PF (EC Γ C))}
    (s : SS (EC Γ C) H0 [x] H F (cellR pm (.lst []) :: cellR pf (.lst []) :: (cells (.dK []) rs.reverse ++ cellR D2 (.dK (kdK ys rs)) :: (cells (.dK []) qs.reverse ++ [cellR D1 (.dK (kdK ys qs)), cellR x (.ins C dx [("sorts", .ref q), ("nexts", .ref D1), ("befores", .ref D2), ("facts", .ref pf), ("numbers", .ref pm)])]))))
    (hq : SqT Γ.K H q (ys.map V.str)) (ay : Asc ys) (lq : qs.length = ys.length) (lr : rs.length = ys.length) :
    TbP Γ.K C ⟨x, dx, q, D1, D2, pf, pm, qs, rs⟩ ⟨ys, [], List.replicate ys.length [], List.replicate ys.length []⟩ H ∧ ∀ a ∈ (⟨x, dx, q, D1, D2, pf, pm, qs, rs⟩ : TAd).fp, H0 a = none := by
  have nd := s.nd
  have ow := s.ow
  simp only [fps, ows, fps_app, ows_app, fps_cells, ows_cells] at nd ow
  have perm : (([pm] ++ ([pf] ++ (rs.reverse ++ ([D2] ++ (qs.reverse ++ ([D1] ++ ([x] ++ []))))))).Perm ((⟨x, dx, q, D1, D2, pf, pm, qs, rs⟩ : TAd).fp ++ [x])) := by
    rw [List.perm_iff_count]
    intro a
    simp only [TAd.fp, List.count_append, List.count_cons, List.count_reverse, List.count_nil]
    omega
  have nd2 := perm.nodup_iff.mp nd
  have n3 := List.nodup_append.mp nd2
  refine ⟨⟨s.cell (b := false) (.tail _ (.tail _ (List.mem_append_right _ (.tail _ (List.mem_append_right _ (.tail _ (.head _))))))), hq, s.cell (p := D1) (b := false) (.tail _ (.tail _ (List.mem_append_right _ (.tail _ (List.mem_append_right _ (.head _)))))), s.cell (p := D2) (b := false) (.tail _ (.tail _ (List.mem_append_right _ (.head _)))), ⟨[], s.cell (p := pf) (b := false) (.tail _ (.head _)), ⟨rfl, fun i t r h => by simp at h⟩⟩, s.cell (p := pm) (b := false) (.head _), ⟨by rw [lq, List.length_replicate], fun i a m h1 h2 => ?_⟩, ⟨by rw [lr, List.length_replicate], fun i a m h1 h2 => ?_⟩, List.length_replicate, List.length_replicate, n3.1, ay, fun _ h => nomatch h⟩, fun a ha => ?_⟩
  · obtain rfl : m = [] := by
      rw [List.getElem?_replicate] at h2
      split at h2
      · exact (Option.some.inj h2).symm
      · cases h2
    refine s.cell (p := a) (o := .dK []) (b := false) ?_
    refine .tail _ (.tail _ (List.mem_append_right _ (.tail _ (List.mem_append_left _ (mem_cells (List.mem_reverse.mpr (List.mem_of_getElem? h1)))))))
  · obtain rfl : m = [] := by
      rw [List.getElem?_replicate] at h2
      split at h2
      · exact (Option.some.inj h2).symm
      · cases h2
    refine s.cell (p := a) (o := .dK []) (b := false) ?_
    refine .tail _ (.tail _ (List.mem_append_left _ (mem_cells (List.mem_reverse.mpr (List.mem_of_getElem? h1)))))
  · have hax : a ≠ x := fun e => n3.2.2 a ha x (.head _) e
    have hm : a ∈ [pm] ++ ([pf] ++ (rs.reverse ++ ([D2] ++ (qs.reverse ++ ([D1] ++ ([x] ++ [])))))) := perm.mem_iff.mpr (List.mem_append_left _ ha)
    rcases ow a (by simpa [cellR] using hm) with h | h
    · exact absurd (List.mem_singleton.mp h) hax
    · exact h
end G
/-! a law's own list of (names, number) -/
namespace G
open PySem PySem.Spec PyProof.Rows L2
/-- two things become one -/
theorem SS.mergeU {E : Hv} {H0 H H' : Hp} {S0 : List Addr} {F : List (PF E)} {R R' : List (RS E)} {r1 r2 r3 : RS E} (s : SS E H0 S0 H F (r1 :: R)) (p : Pick R r2 R' r3) (o1 : r1.ro = false) (o2 : r2.ro = false) (k : Fr (r1.fp ++ r2.fp) H H') (h : r3.P H') (nd : r3.fp.Nodup)
    (own : ∀ a ∈ r3.fp, a ∈ r1.fp ∨ a ∈ r2.fp) (tr : ∀ a ∈ r3.fp, ∃ o, H' a = some o ∧ ¬ Imm E.MC o) : SS E H0 S0 H' F R' := by
  have n := List.nodup_append.mp s.nd
  have imm : ∀ a o, H a = some o → Imm E.MC o → a ∉ r1.fp ++ r2.fp := fun a o e i z => by
    have hz : a ∈ fps (r1 :: R) := by
      rcases List.mem_append.mp z with z | z
      · exact List.mem_append_left _ z
      · exact List.mem_append_right _ (mem_fps p.mem a z)
    obtain ⟨u, hu, hi⟩ := s.tr a hz
    rw [e] at hu; cases hu; exact hi i
  have stay : ∀ a o, H a = some o → Imm E.MC o → H' a = some o := fun a o e i => k a o (imm a o e i) e
  have apart := pick_split p n.2.1
  refine ⟨fun x hx => x.loc H H' (fun a o e z => stay a o e (z.resolve_left List.not_mem_nil)) (s.f x hx), fun x hx => ?_, ?_, fun a ha => ?_, fun a o m e => ?_, fun a ha => ?_⟩
  · rcases apart x hx with rfl | ⟨hx, hn⟩
    · exact h
    · refine x.loc H H' (fun a o e z => z.elim (fun z => k a o (fun q => ?_) e) (stay a o e)) (s.r x (.tail _ hx))
      rcases List.mem_append.mp q with q | q
      · exact n.2.2 a q a (mem_fps hx a z) rfl
      · exact hn a z q
  · refine pick_nodup p n.2.1 nd fun a ha => ?_
    rcases own a ha with q | q
    · exact .inr fun z => n.2.2 a q a z rfl
    · exact .inl q
  · rcases fps_mem a ha with ⟨y, hy, hay⟩
    rcases apart y hy with rfl | ⟨hyR, hn⟩
    · exact tr a hay
    · obtain ⟨o, ho, hi⟩ := s.tr a (List.mem_append_right _ (mem_fps hyR a hay))
      refine ⟨o, k a o (fun q => ?_) ho, hi⟩
      rcases List.mem_append.mp q with q | q
      · exact n.2.2 a q a (mem_fps hyR a hay) rfl
      · exact hn a hay q
  · refine k a o (fun q => ?_) (s.fr a o m e)
    have hw : a ∈ S0 ∨ H0 a = none := by
      rcases List.mem_append.mp q with q | q
      · exact s.ow a (mem_ows (.head _) o1 a q)
      · exact s.ow a (mem_ows (.tail _ p.mem) o2 a q)
    rcases hw with hw | hw
    · exact m hw
    · rw [hw] at e; cases e
  · rcases ows_pick p a ha with ⟨q, _⟩ | q
    · rcases own a q with q | q
      · exact s.ow a (mem_ows (.head _) o1 a q)
      · exact s.ow a (mem_ows (.tail _ p.mem) o2 a q)
    · exact s.ow a (List.mem_append_right _ q)
abbrev Rw := List Str × Int
structure LfP (K : PySem.W.Frag) (l : Addr) (es : List (Addr × Addr)) (rows : List Rw) (H : Hp) : Prop where
  ls : H l = some (.lst (es.map fun e => V.ref e.1))
  len : es.length = rows.length
  at_ : ∀ (i : Nat) (e : Addr × Addr) (r : Rw), es[i]? = some e → rows[i]? = some r → SqT K H e.1 [.ref e.2, .int r.2] ∧ H e.2 = some (.lst (r.1.map V.str))
  nd : (l :: es.map (·.2)).Nodup
def lfp (l : Addr) (es : List (Addr × Addr)) : List Addr := l :: es.map (·.2)
section
variable {K : PySem.W.Frag} {l : Addr} {es : List (Addr × Addr)} {rows : List Rw} {H H' : Hp}
theorem LfP.loc {MC : Addr → Prop} : Loc MC (lfp l es) (LfP K l es rows) := fun H H' k h =>
  ⟨k _ _ h.ls (.inl (.head _)), h.len, fun i e r a b => ⟨sqt_loc (fun a o e i => k a o e (i.elim (fun z => nomatch z) .inr)) (h.at_ i e r a b).1, k _ _ (h.at_ i e r a b).2 (.inl (.tail _ (List.mem_map.mpr ⟨e, List.mem_of_getElem? a, rfl⟩)))⟩, h.nd⟩
theorem LfP.cells {MC : Addr → Prop} (h : LfP K l es rows H) : ∀ a ∈ lfp l es, ∃ o, H a = some o ∧ ¬ Imm MC o := fun a ha => by
  rcases List.mem_cons.mp ha with rfl | ha
  · exact ⟨_, h.ls, fun z => z⟩
  · obtain ⟨e, he, rfl⟩ := List.mem_map.mp ha
    obtain ⟨i, hi, e2⟩ := List.mem_iff_getElem.mp he
    have hl := h.len
    exact ⟨_, (h.at_ i e rows[i] (by rw [List.getElem?_eq_getElem hi, e2]) (List.getElem?_eq_getElem (by omega))).2, fun z => z⟩
theorem LfP.get (h : LfP K l es rows H) {i : Nat} {r : Rw} (e : rows[i]? = some r) : ∃ p, es[i]? = some p ∧ SqT K H p.1 [.ref p.2, .int r.2] ∧ H p.2 = some (.lst (r.1.map V.str)) := by
  have hi := (List.getElem?_eq_some_iff.mp e).1
  obtain ⟨p, hp⟩ : ∃ p, es[i]? = some p := ⟨_, List.getElem?_eq_getElem (by rw [h.len]; exact hi)⟩
  exact ⟨p, hp, h.at_ i p r hp e⟩
/-- a row more -/
theorem LfP.app (h : LfP K l es rows H) {T li : Addr} {ns : List Str} {x : Int} (hT : SqT K H T [.ref li, .int x]) (hl : H li = some (.lst (ns.map V.str))) (n : li ∉ lfp l es) :
    LfP K l (es ++ [(T, li)]) (rows ++ [(ns, x)]) (L2.upd H l (.lst (es.map (fun e => V.ref e.1) ++ [.ref T]))) := by
  have im : ¬ Imm (fun _ => False) (.lst (es.map fun e => V.ref e.1)) := fun z => z
  have nn := List.nodup_cons.mp h.nd
  refine ⟨by rw [upd_same, List.map_append]; rfl, by rw [List.length_append, List.length_append, h.len]; rfl, fun i e r a b => ?_, ?_⟩
  · rcases Nat.lt_trichotomy i es.length with hi | hi | hi
    · rw [List.getElem?_append_left hi] at a
      rw [List.getElem?_append_left (by rw [← h.len]; exact hi)] at b
      refine ⟨sqt_upd (h.at_ i e r a b).1 h.ls im, ?_⟩
      rw [upd_ne (fun z => nn.1 (by rw [← z]; exact List.mem_map.mpr ⟨e, List.mem_of_getElem? a, rfl⟩))]
      exact (h.at_ i e r a b).2
    · rw [hi, List.getElem?_append_right (Nat.le_refl _)] at a
      rw [hi, h.len, List.getElem?_append_right (Nat.le_refl _)] at b
      obtain rfl : (T, li) = e := by simpa using a
      obtain rfl : (ns, x) = r := by simpa using b
      refine ⟨sqt_upd hT h.ls im, ?_⟩
      rw [upd_ne (show li ≠ l from fun z => n (by rw [z]; exact .head _))]
      exact hl
    · rw [List.getElem?_append_right (by omega), List.getElem?_eq_none (by simp; omega)] at a
      cases a
  · have e2 : l :: (es ++ [(T, li)]).map (·.2) = (l :: es.map (·.2)) ++ [li] := by rw [List.map_append]; rfl
    rw [e2]
    exact List.nodup_append.mpr ⟨h.nd, List.nodup_cons.mpr ⟨List.not_mem_nil, .nil⟩, fun a ha b hb e => n (by rw [List.mem_singleton.mp hb] at e; rw [← e]; exact ha)⟩
/-- a row is rewritten, with another list of names or the same one -/
theorem LfP.set (h : LfP K l es rows H) {i : Nat} {e0 : Addr × Addr} {T li : Addr} {ns : List Str} {x : Int} (he : es[i]? = some e0) (hT : SqT K H T [.ref li, .int x]) (hl : H li = some (.lst (ns.map V.str))) (n : li = e0.2 ∨ li ∉ lfp l es) :
    LfP K l (es.set i (T, li)) (rows.set i (ns, x)) (L2.upd H l (.lst ((es.map fun e => V.ref e.1).set i (.ref T)))) := by
  have im : ¬ Imm (fun _ => False) (.lst (es.map fun e => V.ref e.1)) := fun z => z
  have nn := List.nodup_cons.mp h.nd
  have hi := (List.getElem?_eq_some_iff.mp he).1
  have hli : li ≠ l := fun z => by
    rcases n with n | n
    · exact nn.1 (by rw [← z, n]; exact List.mem_map.mpr ⟨e0, List.mem_of_getElem? he, rfl⟩)
    · exact n (by rw [z]; exact .head _)
  refine ⟨by rw [upd_same, List.map_set], by rw [List.length_set, List.length_set, h.len], fun j e r a b => ?_, ?_⟩
  · rw [List.getElem?_set] at a b
    by_cases hij : i = j
    · rw [if_pos hij, if_pos hi] at a
      rw [if_pos hij, if_pos (by rw [← h.len]; exact hi)] at b
      obtain rfl := Option.some.inj a
      obtain rfl := Option.some.inj b
      exact ⟨sqt_upd hT h.ls im, by rw [upd_ne hli]; exact hl⟩
    · rw [if_neg hij] at a b
      refine ⟨sqt_upd (h.at_ j e r a b).1 h.ls im, ?_⟩
      rw [upd_ne (fun z => nn.1 (by rw [← z]; exact List.mem_map.mpr ⟨e, List.mem_of_getElem? a, rfl⟩))]
      exact (h.at_ j e r a b).2
  · rw [List.map_set]
    rcases n with n | n
    · rw [n, List.set_getElem?_self' (by rw [List.getElem?_map, he]; rfl)]
      exact h.nd
    · refine List.nodup_cons.mpr ⟨fun z => ?_, ?_⟩
      · rcases List.mem_or_eq_of_mem_set z with z | z
        · exact nn.1 z
        · exact hli z.symm
      · have hns : li ∉ es.map (·.2) := fun z => n (.tail _ z)
        exact nodup_set nn.2 hns
where
  nodup_set {L : List Addr} {i : Nat} {a : Addr} (h : L.Nodup) (n : a ∉ L) : (L.set i a).Nodup := by
    induction L generalizing i with
    | nil => exact h
    | cons x L ih =>
      have hx := List.nodup_cons.mp h
      cases i with
      | zero => exact List.nodup_cons.mpr ⟨fun z => n (.tail _ z), hx.2⟩
      | succ i =>
        refine List.nodup_cons.mpr ⟨fun z => ?_, ih hx.2 fun z => n (.tail _ z)⟩
        rcases List.mem_or_eq_of_mem_set z with z | z
        · exact hx.1 z
        · exact n (by rw [← z]; exact .head _)
end
def lfR {Γ : Gm} (l : Addr) (es : List (Addr × Addr)) (rows : List Rw) : RS (E1 Γ) := ⟨lfp l es, LfP Γ.K l es rows, LfP.loc, false⟩
section
variable {Γ : Gm} {l : Addr} {es es' : List (Addr × Addr)} {rows rows' : List Rw} {H0 H H' : Hp} {S0 : List Addr} {F : List (PF (E1 Γ))} {R R' : List (RS (E1 Γ))}
theorem SS.lf (s : SS (E1 Γ) H0 S0 H F R) (m : lfR l es rows ∈ R) : LfP Γ.K l es rows H := s.r _ m
/-- a new list is the law's -/
theorem SS.lfNew (s : SS (E1 Γ) H0 S0 H F R) (p : Pick R (lstR l []) R' (lfR l [] [])) : SS (E1 Γ) H0 S0 H F R' :=
  s.upd p rfl Fr.refl ⟨s.cell p.mem, rfl, fun i e r a => by simp at a, List.nodup_cons.mpr ⟨List.not_mem_nil, .nil⟩⟩ (List.nodup_cons.mpr ⟨List.not_mem_nil, .nil⟩) (fun a h => .inl h) fun a h => by
    rw [List.mem_singleton.mp h]
    exact ⟨_, s.cell p.mem, fun z => z⟩
/-- rewritten by what it had -/
theorem SS.lfU (s : SS (E1 Γ) H0 S0 H F R) (p : Pick R (lfR l es rows) R' (lfR l es' rows')) (f : Fr (lfp l es) H H') (h : LfP Γ.K l es' rows' H') (own : ∀ a ∈ lfp l es', a ∈ lfp l es) : SS (E1 Γ) H0 S0 H' F R' :=
  s.upd p rfl f h h.nd (fun a ha => .inl (own a ha)) h.cells
/-- .. and by a new list of names -/
theorem SS.lfM {li : Addr} {ns : List V} (s : SS (E1 Γ) H0 S0 H F (lstR li ns :: R)) (p : Pick R (lfR l es rows) R' (lfR l es' rows')) (f : Fr (lfp l es) H H') (h : LfP Γ.K l es' rows' H') (own : ∀ a ∈ lfp l es', a = li ∨ a ∈ lfp l es) : SS (E1 Γ) H0 S0 H' F R' :=
  s.mergeU p rfl rfl (fun a o n e => f a o (fun z => n (List.mem_append_right _ z)) e) h h.nd (fun a ha => (own a ha).imp (fun e => by rw [e]; exact .head _) id) h.cells
end
/-- the table's rows are those of the law's list -/
structure RelR (rows rows' : List Rw) : Prop where
  len : rows.length = rows'.length
  at_ : ∀ (i : Nat) (r r' : Rw), rows[i]? = some r → rows'[i]? = some r' → r.2 = r'.2 ∧ r'.1.Nodup ∧ (∀ z, z ∈ r.1 ↔ z ∈ r'.1) ∧ r.1.length < 40 ∧ r'.1.length < 40
theorem RelR.nil : RelR [] [] := ⟨rfl, fun i r r' h => by simp at h⟩
theorem RelR.app {rows rows' : List Rw} {r r' : Rw} (h : RelR rows rows') (e : r.2 = r'.2 ∧ r'.1.Nodup ∧ (∀ z, z ∈ r.1 ↔ z ∈ r'.1) ∧ r.1.length < 40 ∧ r'.1.length < 40) : RelR (rows ++ [r]) (rows' ++ [r']) := by
  refine ⟨by rw [List.length_append, List.length_append, h.len]; rfl, fun i u u' a b => ?_⟩
  rcases Nat.lt_trichotomy i rows.length with hi | hi | hi
  · rw [List.getElem?_append_left hi] at a
    rw [List.getElem?_append_left (by rw [← h.len]; exact hi)] at b
    exact h.at_ i u u' a b
  · rw [hi, List.getElem?_append_right (Nat.le_refl _)] at a
    rw [hi, h.len, List.getElem?_append_right (Nat.le_refl _)] at b
    obtain rfl : r = u := by simpa using a
    obtain rfl : r' = u' := by simpa using b
    exact e
  · rw [List.getElem?_append_right (by omega), List.getElem?_eq_none (by simp; omega)] at a
    cases a
theorem RelR.set {rows rows' : List Rw} {r r' : Rw} {i : Nat} (h : RelR rows rows') (e : r.2 = r'.2 ∧ r'.1.Nodup ∧ (∀ z, z ∈ r.1 ↔ z ∈ r'.1) ∧ r.1.length < 40 ∧ r'.1.length < 40) : RelR (rows.set i r) (rows'.set i r') := by
  refine ⟨by rw [List.length_set, List.length_set, h.len], fun j u u' a b => ?_⟩
  rw [List.getElem?_set] at a b
  by_cases hij : i = j
  · rw [if_pos hij] at a b
    split at a
    · split at b
      · obtain rfl := Option.some.inj a
        obtain rfl := Option.some.inj b
        exact e
      · cases b
    · cases a
  · rw [if_neg hij] at a b
    exact h.at_ j u u' a b
/-! ### rows as data -/
def rowD (r : Rw) : PyData := .tuple [.tuple (r.1.map PyData.str), .int r.2]
theorem eqvAll_rows : ∀ xs : List Rw, PyData.eqvAll (xs.map rowD) (xs.map rowD) = true
  | [] => by simp [PyData.eqvAll]
  | x :: xs => by
    have ih := eqvAll_rows xs
    have h := eqvAll_strs x.1 x.1
    simp [PyData.eqvAll, rowD, PyData.eqv, ih, h]
theorem shaped_rows {xs : List Rw} (h : ∀ r ∈ xs, ∀ k ∈ r.1, PyData.strOk k = true) : SeqAt.shaped (.tuple (xs.map rowD)) = true := by
  have a1 : ∀ ks : List Str, (∀ k ∈ ks, PyData.strOk k = true) → PyData.canLayAll0 (ks.map PyData.str) = true := by
    intro ks
    induction ks with
    | nil => intro _; rfl
    | cons k r ih =>
      intro h
      simp [PyData.canLayAll0, PyData.canLay0]
      exact ⟨h k (.head _), ih fun x hx => h x (.tail _ hx)⟩
  have b1 : ∀ ks : List Str, PyData.depthAll (ks.map PyData.str) = 0 := by
    intro ks
    induction ks with
    | nil => rfl
    | cons k r ih => simp [PyData.depthAll, PyData.depth, ih]
  have a : PyData.canLayAll0 (xs.map rowD) = true := by
    induction xs with
    | nil => rfl
    | cons x xs ih =>
      have i2 := ih fun r hr => h r (.tail _ hr)
      simp [PyData.canLayAll0, rowD, PyData.canLay0, a1 x.1 (h x (.head _))]
      exact i2
  have b : PyData.depthAll (xs.map rowD) ≤ 2 := by
    clear h a
    induction xs with
    | nil => simp [PyData.depthAll]
    | cons x xs ih =>
      simp only [List.map_cons, PyData.depthAll, rowD, PyData.depth, b1]
      omega
  unfold SeqAt.shaped
  simp [PyData.canLay0, PyData.depth, a]
  omega
theorem wo_neST {Γ : Gm} {H : Hp} {Q : VK} {p q : Addr} {xs ys : List Str} (hp : SqT Γ.K H p (xs.map V.str)) (hq : SqT Γ.K H q (ys.map V.str)) (ox : ∀ k ∈ xs, PyData.strOk k = true) (oy : ∀ k ∈ ys, PyData.strOk k = true) (k : Q (.bl (!decide (xs = ys))) H) : WO Γ (compareOp .NotEq) (.ref p) (.ref q) H Q :=
  ⟨rNeD Γ.K, fun X g => (by have := op_neD (X := X) (Nat.lt_of_le_of_lt (Nat.le_refl _) g.hu64); rw [g.K] at this; exact this), _, _, .tup hp (dp_strs xs), .tup hq (dp_strs ys), shaped_strT ox, shaped_strT oy, by
    have e : PyData.eqv (.tuple (xs.map PyData.str)) (.tuple (ys.map PyData.str)) = decide (xs = ys) := by rw [tk, eqvAll_strs]
    rw [e]; exact k⟩
/-- two tuples of the same rows are equal -/
theorem wo_eqRows {Γ : Gm} {H : Hp} {Q : VK} {p q : Addr} {ps qs : List V} {xs : List Rw} (hp : SqT Γ.K H p ps) (hq : SqT Γ.K H q qs) (dp : DpAll Γ.K H ps (xs.map rowD)) (dq : DpAll Γ.K H qs (xs.map rowD)) (h : ∀ r ∈ xs, ∀ k ∈ r.1, PyData.strOk k = true) (k : Q (.bl true) H) : WO Γ (compareOp .Eq) (.ref p) (.ref q) H Q :=
  ⟨rEqD Γ.K, fun X g => (by have := op_eqD (X := X) (Nat.lt_of_le_of_lt (Nat.le_refl _) g.hu64); rw [g.K] at this; exact this), _, _, .tup hp dp, .tup hq dq, shaped_rows h, shaped_rows h, by
    have e : PyData.eqv (.tuple (xs.map rowD)) (.tuple (xs.map rowD)) = true := by rw [tk, eqvAll_rows]
    rw [e]; exact k⟩
theorem dpAll_of {K : PySem.W.Frag} {H : Hp} : ∀ {ts : List Addr} {rows : List Rw}, ts.length = rows.length → (∀ (i : Nat) t r, ts[i]? = some t → rows[i]? = some r → ∃ m, SqT K H t [.ref m, .int r.2] ∧ SqT K H m (r.1.map V.str)) → DpAll K H (ts.map V.ref) (rows.map rowD)
  | [], [], _, _ => .nil
  | t :: ts, r :: rows, h, k => by
    obtain ⟨m, h1, h2⟩ := k 0 t r rfl rfl
    exact .cons (.tup h1 (.cons (.tup h2 (dp_strs r.1)) (.cons (.int _) .nil))) (dpAll_of (by simpa using h) fun i t r a b => k (i + 1) t r a b)
  | [], _ :: _, h, _ => by simp at h
  | _ :: _, [], h, _ => by simp at h
end G
/-! several things changed at once; a law's list of rows and its table -/
namespace G
open PySem PySem.Spec PyProof.Rows L2
section
variable {E : Hv} {H0 H H' : Hp} {S0 : List Addr} {F : List (PF E)} {R R' Rs Rs' : List (RS E)}
theorem fps_perm (p : R.Perm R') : (fps R).Perm (fps R') := by
  induction p with
  | nil => exact .refl _
  | cons x _ ih => exact ih.append_left _
  | swap x y l => exact List.perm_append_comm_assoc _ _ _
  | trans _ _ a b => exact a.trans b
theorem ows_perm (p : R.Perm R') : (ows R).Perm (ows R') := by
  induction p with
  | nil => exact .refl _
  | cons x _ ih => exact ih.append_left _
  | swap x y l => exact List.perm_append_comm_assoc _ _ _
  | trans _ _ a b => exact a.trans b
/-- in another order -/
theorem SS.perm (s : SS E H0 S0 H F R) (p : R.Perm R') : SS E H0 S0 H F R' :=
  ⟨s.f, fun x hx => s.r x (p.mem_iff.mpr hx), (fps_perm p).nodup_iff.mp s.nd, fun a ha => s.tr a ((fps_perm p).mem_iff.mpr ha), s.fr, fun a ha => s.ow a ((ows_perm p).mem_iff.mpr ha)⟩
/-- several as one -/
def bunR (Rs : List (RS E)) : RS E := ⟨fps Rs, fun H => ∀ x ∈ Rs, x.P H, fun H H' k h x hx => x.loc H H' (fun a o e i => k a o e (i.elim (fun z => .inl (mem_fps hx a z)) .inr)) (h x hx), false⟩
theorem ows_own (o : ∀ x ∈ Rs, x.ro = false) : ows Rs = fps Rs := by
  induction Rs with
  | nil => rfl
  | cons x l ih =>
    show (if x.ro then [] else x.fp) ++ ows l = x.fp ++ fps l
    rw [o x (.head _), ih fun y hy => o y (.tail _ hy)]
    rfl
theorem SS.bun (s : SS E H0 S0 H F (Rs ++ R)) (o : ∀ x ∈ Rs, x.ro = false) : SS E H0 S0 H F (bunR Rs :: R) := by
  have e1 : fps (bunR Rs :: R) = fps (Rs ++ R) := by rw [fps_app]; rfl
  have e2 : ows (bunR Rs :: R) = ows (Rs ++ R) := by rw [ows_app, ows_own o]; rfl
  refine ⟨s.f, fun x hx => ?_, by rw [e1]; exact s.nd, by rw [e1]; exact s.tr, s.fr, by rw [e2]; exact s.ow⟩
  rcases List.mem_cons.mp hx with rfl | hx
  · exact fun y hy => s.r y (List.mem_append_left _ hy)
  · exact s.r x (List.mem_append_right _ hx)
theorem SS.unb (s : SS E H0 S0 H F (bunR Rs :: R)) (o : ∀ x ∈ Rs, x.ro = false) : SS E H0 S0 H F (Rs ++ R) := by
  have e1 : fps (bunR Rs :: R) = fps (Rs ++ R) := by rw [fps_app]; rfl
  have e2 : ows (bunR Rs :: R) = ows (Rs ++ R) := by rw [ows_app, ows_own o]; rfl
  refine ⟨s.f, fun x hx => ?_, by rw [← e1]; exact s.nd, by rw [← e1]; exact s.tr, s.fr, by rw [← e2]; exact s.ow⟩
  rcases List.mem_append.mp hx with hx | hx
  · exact s.r (bunR Rs) (.head _) x hx
  · exact s.r x (.tail _ hx)
/-- several are changed -/
theorem SS.updL (s : SS E H0 S0 H F (Rs ++ R)) (o : ∀ x ∈ Rs, x.ro = false) (o' : ∀ x ∈ Rs', x.ro = false) (k : Fr (fps Rs) H H') (h : ∀ x ∈ Rs', x.P H') (nd : (fps Rs').Nodup) (own : ∀ a ∈ fps Rs', a ∈ fps Rs ∨ H a = none) (tr : ∀ a ∈ fps Rs', ∃ o, H' a = some o ∧ ¬ Imm E.MC o) : SS E H0 S0 H' F (Rs' ++ R) :=
  ((s.bun o).upd .here rfl k (r' := bunR Rs') h nd own tr).unb o'
end
/-! ### a drawn deed -/
def dfp (b : Addr) (A : TAd) (l : Addr) (es : List (Addr × Addr)) : List Addr := [b] ++ (A.fp ++ (lfp l es ++ []))
structure DeedP (K : PySem.W.Frag) (C b : Addr) (A : TAd) (l : Addr) (n : Nat) (B : Tb) (es : List (Addr × Addr)) (rows : List Rw) (names : List Str) (H : Hp) : Prop where
  bx : Box b n H
  tb : TbP K C A B H
  lf : LfP K l es rows H
  rel : RelR B.rows rows
  nd : (dfp b A l es).Nodup
  sub : ∀ r ∈ rows, ∀ z ∈ r.1, z ∈ names
section
variable {Γ : Gm} {C b l : Addr} {A : TAd} {n : Nat} {B : Tb} {es es' : List (Addr × Addr)} {rows rows' : List Rw} {names : List Str} {H0 H H' : Hp} {S0 : List Addr} {F : List (PF (E1 Γ))} {R : List (RS (E1 Γ))}
abbrev dRs (Γ : Gm) (C b : Addr) (A : TAd) (l : Addr) (n : Nat) (B : Tb) (es : List (Addr × Addr)) (rows : List Rw) : List (RS (E1 Γ)) := [boxR b n, tbR C A B, lfR l es rows]
theorem DeedP.cells (h : DeedP Γ.K C b A l n B es rows names H) {MC : Addr → Prop} : ∀ a ∈ dfp b A l es, ∃ o, H a = some o ∧ ¬ Imm MC o := fun a ha => by
  rcases List.mem_append.mp ha with ha | ha
  · rw [List.mem_singleton.mp ha]
    obtain ⟨xs, e⟩ := h.bx.cell
    exact ⟨_, e, fun z => z⟩
  rcases List.mem_append.mp ha with ha | ha
  · exact h.tb.cells a ha
  rw [List.append_nil] at ha
  exact h.lf.cells a ha
theorem DeedP.all (h : DeedP Γ.K C b A l n B es rows names H) : ∀ x ∈ dRs Γ C b A l n B es rows, x.P H := fun x hx => by
  rcases List.mem_cons.mp hx with rfl | hx
  · exact h.bx
  rcases List.mem_cons.mp hx with rfl | hx
  · exact h.tb
  rcases List.mem_cons.mp hx with rfl | hx
  · exact h.lf
  cases hx
theorem dRs_own : ∀ x ∈ dRs Γ C b A l n B es rows, x.ro = false := fun x hx => by
  rcases List.mem_cons.mp hx with rfl | hx
  · rfl
  rcases List.mem_cons.mp hx with rfl | hx
  · rfl
  rcases List.mem_cons.mp hx with rfl | hx
  · rfl
  cases hx
theorem DeedP.ss (h : DeedP Γ.K C b A l n B es rows names H) : SS (E1 Γ) H (dfp b A l es) H [] (dRs Γ C b A l n B es rows) := by
  have s := SS.start (E := E1 Γ) (F := []) (R := dRs Γ C b A l n B es rows) (H := H) (fun _ h => nomatch h) h.all h.nd h.cells
  rw [ows_own dRs_own] at s
  exact s
theorem DeedP.of (s : SS (E1 Γ) H0 S0 H F (dRs Γ C b A l n B es rows ++ R)) (rel : RelR B.rows rows) (sub : ∀ r ∈ rows, ∀ z ∈ r.1, z ∈ names) : DeedP Γ.K C b A l n B es rows names H :=
  ⟨s.r _ (.head _), s.r _ (.tail _ (.head _)), s.r _ (.tail _ (.tail _ (.head _))), rel, by
    have := s.nd
    rw [fps_app] at this
    exact (List.nodup_append.mp this).1, sub⟩
/-- what a deed leaves -/
def DQ (K : PySem.W.Frag) (C b : Addr) (A : TAd) (l : Addr) (n : Nat) (B : Tb) (es : List (Addr × Addr)) (rows : List Rw) (names : List Str) (H : Hp) (Q : VK) : Prop :=
  ∀ (B' : Tb) (es' : List (Addr × Addr)) (rows' : List Rw) (H' : Hp), DeedP K C b A l n B' es' rows' names H' → Fr (dfp b A l es) H H' → (∀ a ∈ dfp b A l es', a ∈ dfp b A l es ∨ H a = none) → rows'.length ≤ rows.length + 1 → B'.ks = B.ks → B'.nx = B.nx → Q (.bl true) H'
theorem DQ.fin {B' : Tb} {m : Nat} {Q : VK} (q : DQ Γ.K C b A l n B es rows names H0 Q) (s : SS (E1 Γ) H0 (dfp b A l es) H F (dRs Γ C b A l (n + m) B' es' rows' ++ R)) (rel : RelR B'.rows rows') (sub : ∀ r ∈ rows', ∀ z ∈ r.1, z ∈ names) (hl : rows'.length ≤ rows.length + 1) (k : B'.ks = B.ks) (x : B'.nx = B.nx) : Q (.bl true) H := by
  have d := DeedP.of s rel sub
  refine q B' es' rows' H ⟨d.bx.less (by omega), d.tb, d.lf, d.rel, d.nd, d.sub⟩ s.fr (fun a ha => s.ow a ?_) hl k x
  rw [ows_app, ows_own dRs_own]
  exact List.mem_append_left _ ha
theorem DQ.upd {m : Nat} {B' : Tb} {rows' : List Rw} (s : SS (E1 Γ) H0 S0 H F (dRs Γ C b A l m B es rows ++ R)) (d : DeedP Γ.K C b A l n B' es' rows' names H') (f : Fr (dfp b A l es) H H') (own : ∀ a ∈ dfp b A l es', a ∈ dfp b A l es ∨ H a = none) : SS (E1 Γ) H0 S0 H' F (dRs Γ C b A l n B' es' rows' ++ R) :=
  s.updL dRs_own dRs_own f d.all d.nd own d.cells
end
/-! ### != [] -/
theorem wo_neE {Γ : Gm} {H : Hp} {Q : VK} {p q : Addr} {ks : List Str} (hp : SqL Γ.K H p (ks.map V.str)) (hq : SqL Γ.K H q []) (ok : ∀ k ∈ ks, PyData.strOk k = true) (k : Q (.bl (!ks.isEmpty)) H) : WO Γ (compareOp .NotEq) (.ref p) (.ref q) H Q :=
  ⟨rNeD Γ.K, fun X g => (by have := op_neD (X := X) (Nat.lt_of_le_of_lt (Nat.le_refl _) g.hu64); rw [g.K] at this; exact this), _, _, .lst hp (dp_strs ks), .lst hq .nil, shaped_strs ok, by decide, by
    have e : PyData.eqv (.list (ks.map PyData.str)) (.list []) = ks.isEmpty := by cases ks <;> simp [PyData.eqv, PyData.eqvAll]
    rw [e]; exact k⟩
def rowL (r : Rw) : PyData := .tuple [.list (r.1.map PyData.str), .int r.2]
theorem shaped_rowsL {xs : List Rw} (h : ∀ r ∈ xs, ∀ k ∈ r.1, PyData.strOk k = true) : SeqAt.shaped (.list (xs.map rowL)) = true := by
  have a1 : ∀ ks : List Str, (∀ k ∈ ks, PyData.strOk k = true) → PyData.canLayAll0 (ks.map PyData.str) = true := by
    intro ks
    induction ks with
    | nil => intro _; rfl
    | cons k r ih =>
      intro h
      simp [PyData.canLayAll0, PyData.canLay0]
      exact ⟨h k (.head _), ih fun x hx => h x (.tail _ hx)⟩
  have b1 : ∀ ks : List Str, PyData.depthAll (ks.map PyData.str) = 0 := by
    intro ks
    induction ks with
    | nil => rfl
    | cons k r ih => simp [PyData.depthAll, PyData.depth, ih]
  have a : PyData.canLayAll0 (xs.map rowL) = true := by
    induction xs with
    | nil => rfl
    | cons x xs ih =>
      have i2 := ih fun r hr => h r (.tail _ hr)
      simp [PyData.canLayAll0, rowL, PyData.canLay0, a1 x.1 (h x (.head _))]
      exact i2
  have b : PyData.depthAll (xs.map rowL) ≤ 2 := by
    clear h a
    induction xs with
    | nil => simp [PyData.depthAll]
    | cons x xs ih =>
      simp only [List.map_cons, PyData.depthAll, rowL, PyData.depth, b1]
      omega
  unfold SeqAt.shaped
  simp [PyData.canLay0, PyData.depth, a]
  omega
theorem LfP.dp {K : PySem.W.Frag} {H : Hp} : ∀ {es : List (Addr × Addr)} {rows : List Rw}, es.length = rows.length → (∀ (i : Nat) (e : Addr × Addr) (r : Rw), es[i]? = some e → rows[i]? = some r → SqT K H e.1 [.ref e.2, .int r.2] ∧ H e.2 = some (.lst (r.1.map V.str))) → DpAll K H (es.map fun e => V.ref e.1) (rows.map rowL)
  | [], [], _, _ => .nil
  | t :: ts, r :: rows, h, k => by
    obtain ⟨h1, h2⟩ := k 0 t r rfl rfl
    exact .cons (.tup h1 (.cons (.lst (SqL.of h2) (dp_strs r.1)) (.cons (.int _) .nil))) (LfP.dp (by simpa using h) fun i t r a b => k (i + 1) t r a b)
  | [], _ :: _, h, _ => by simp at h
  | _ :: _, [], h, _ => by simp at h
theorem wo_neL {Γ : Gm} {H : Hp} {Q : VK} {l q : Addr} {es : List (Addr × Addr)} {rows : List Rw} (hp : LfP Γ.K l es rows H) (hq : SqL Γ.K H q []) (ok : ∀ r ∈ rows, ∀ k ∈ r.1, PyData.strOk k = true) (k : Q (.bl (!rows.isEmpty)) H) : WO Γ (compareOp .NotEq) (.ref l) (.ref q) H Q :=
  ⟨rNeD Γ.K, fun X g => (by have := op_neD (X := X) (Nat.lt_of_le_of_lt (Nat.le_refl _) g.hu64); rw [g.K] at this; exact this), _, _, .lst (SqL.of hp.ls) (LfP.dp hp.len hp.at_), .lst hq .nil, shaped_rowsL ok, by decide, by
    have e : PyData.eqv (.list (rows.map rowL)) (.list []) = rows.isEmpty := by cases rows <;> simp [PyData.eqv, PyData.eqvAll]
    rw [e]; exact k⟩
/-! ### picked names -/
theorem picked_s {ns : List Str} {xs r : List V} (h : (xs ++ r).Perm (ns.map V.str)) (nd : ns.Nodup) : ∃ ms : List Str, xs = ms.map V.str ∧ ms.Nodup ∧ ∀ z ∈ ms, z ∈ ns := by
  let of : V → Str := fun v => match v with
    | .str y => y
    | _ => ""
  have h2 := h.map of
  rw [List.map_map, show (of ∘ fun c => V.str c) = id from rfl, List.map_id, List.map_append] at h2
  refine ⟨xs.map of, ?_, ?_, fun c hc => h2.mem_iff.mp (List.mem_append_left _ hc)⟩
  · rw [List.map_map]
    refine (List.map_id xs).symm.trans (List.map_congr_left fun v hv => ?_)
    obtain ⟨z, _, rfl⟩ := List.mem_map.mp (h.mem_iff.mp (List.mem_append_left _ hv))
    rfl
  · exact (List.nodup_append.mp (h2.nodup_iff.mpr nd)).1
end G
/-! links of a kind, plainly; and in a table -/
namespace G
open PySem PySem.Spec PyProof.Rows L2
def nxt (m : Mp) (r : Nat) : Option Nat := (m.find? fun e => decide (e.1 = r)).map (·.2)
section
variable {m b : Mp} {r o n : Nat}
theorem nxt_cons {e : Nat × Nat} {l : Mp} : nxt (e :: l) r = if e.1 = r then some e.2 else nxt l r := by
  unfold nxt
  rw [List.find?_cons]
  by_cases h : e.1 = r
  · simp [h]
  · simp [h]
theorem nxt_mem (h : nxt m r = some o) : (r, o) ∈ m := by
  induction m with
  | nil => cases h
  | cons e l ih =>
    rw [nxt_cons] at h
    split at h
    · rename_i e1
      cases h
      rw [← e1]
      exact .head _
    · exact .tail _ (ih h)
theorem nxt_none : nxt m r = none ↔ ∀ o, (r, o) ∉ m := by
  induction m with
  | nil => exact ⟨(fun _ _ h => nomatch h), fun _ => rfl⟩
  | cons e l ih =>
    rw [nxt_cons]
    by_cases h : e.1 = r
    · rw [if_pos h]
      refine ⟨(fun h2 => by cases h2), fun h2 => absurd ?_ (h2 e.2)⟩
      rw [← h]
      exact List.Mem.head _
    · rw [if_neg h, ih]
      exact ⟨fun h2 o ho => by
        cases ho with
        | head => exact h rfl
        | tail _ z => exact h2 o z, fun h2 o ho => h2 o (.tail _ ho)⟩
theorem nxt_of (km : (m.map (·.1)).Nodup) (h : (r, o) ∈ m) : nxt m r = some o := by
  induction m with
  | nil => cases h
  | cons e l ih =>
    have n := List.nodup_cons.mp km
    rw [nxt_cons]
    cases h with
    | head => rw [if_pos rfl]
    | tail _ z =>
      rw [if_neg (fun e1 => n.1 (List.mem_map.mpr ⟨_, z, e1.symm⟩))]
      exact ih n.2 z
theorem valV_mp (m : Mp) (r : Nat) : valV (mpK m) (Sum.inl (r : Int)) = (nxt m r).map fun o : Nat => V.int o := by
  induction m with
  | nil => rfl
  | cons e l ih =>
    show valV ((Sum.inl (e.1 : Int), V.int e.2) :: mpK l) (Sum.inl (r : Int)) = _
    rw [nxt_cons]
    by_cases h : e.1 = r
    · rw [if_pos h, valV_pos (by rw [← h])]
      rfl
    · rw [if_neg h, valV_neg (fun e1 => h (by injection e1 with e1; omega)), ih]
theorem putK_mp (h : nxt m r = none) : putK (mpK m) (Sum.inl (r : Int)) (.int o) = mpK (m ++ [(r, o)]) := by
  rw [putK_new _ (by rw [valV_mp, h]; rfl)]
  unfold mpK
  rw [List.map_append]
  rfl
theorem dropK_mp : dropK (mpK m) (Sum.inl (r : Int)) = mpK (m.filter fun e => decide (e.1 ≠ r)) := by
  induction m with
  | nil => rfl
  | cons e l ih =>
    have ih2 : (mpK l).filter (fun kv => decide (kv.1 ≠ (Sum.inl (r : Int) : Key))) = mpK (l.filter fun e => decide (e.1 ≠ r)) := ih
    show ((Sum.inl (e.1 : Int), V.int e.2) :: mpK l).filter (fun kv => decide (kv.1 ≠ (Sum.inl (r : Int) : Key))) = _
    by_cases h : e.1 = r
    · rw [List.filter_cons_of_neg (by simp [h]), List.filter_cons_of_neg (by simp [h])]
      exact ih2
    · have ne : (Sum.inl (e.1 : Int) : Key) ≠ Sum.inl (r : Int) := fun e1 => h (by injection e1 with e1; omega)
      rw [List.filter_cons_of_pos (by simpa using ne), List.filter_cons_of_pos (by simpa using h), ih2]
      rfl
/-- from a one comes to c -/
inductive Rch (m : Mp) : Nat → Nat → Prop where
  | refl (a : Nat) : Rch m a a
  | step {a b c : Nat} : (a, b) ∈ m → Rch m b c → Rch m a c
theorem Rch.snoc {a b c : Nat} (h : Rch m a b) (k : (b, c) ∈ m) : Rch m a c := by
  induction h with
  | refl a => exact .step k (.refl _)
  | step h1 _ ih => exact .step h1 (ih k)
theorem Rch.det {a b c : Nat} (km : (m.map (·.1)).Nodup) (h : Rch m a b) (k : Rch m a c) (hb : nxt m b = none) (hc : nxt m c = none) : b = c := by
  induction h with
  | refl a =>
    cases k with
    | refl => rfl
    | step h1 _ => exact absurd h1 (nxt_none.mp hb _)
  | step h1 _ ih =>
    cases k with
    | refl => exact absurd h1 (nxt_none.mp hc _)
    | step k1 k2 =>
      have e : some _ = some _ := (nxt_of km h1).symm.trans (nxt_of km k1)
      cases e
      exact ih k2 hb
/-- the links of one kind among n rows -/
structure LkI (n : Nat) (m b : Mp) : Prop where
  km : (m.map (·.1)).Nodup
  kb : (b.map (·.1)).Nodup
  inv : ∀ r o, (r, o) ∈ m ↔ (o, r) ∈ b
  lt : ∀ r o, (r, o) ∈ m → r < n ∧ o < n
  ac : ∃ rk : Nat → Nat, ∀ r o, (r, o) ∈ m → rk r < rk o
theorem LkI.nil : LkI n [] [] := ⟨.nil, .nil, (fun r o => ⟨(fun h => nomatch h), (fun h => nomatch h)⟩), (fun r o h => nomatch h), fun _ => 0, (fun r o h => nomatch h)⟩
theorem LkI.mono {k : Nat} (h : LkI n m b) (l : n ≤ k) : LkI k m b := ⟨h.km, h.kb, h.inv, fun r o e => ⟨Nat.lt_of_lt_of_le (h.lt r o e).1 l, Nat.lt_of_lt_of_le (h.lt r o e).2 l⟩, h.ac⟩
theorem snoc_nd {l : Mp} {r o : Nat} (h : (l.map (·.1)).Nodup) (k : nxt l r = none) : ((l ++ [(r, o)]).map (·.1)).Nodup := by
  rw [List.map_append]
  refine List.nodup_append.mpr ⟨h, List.nodup_cons.mpr ⟨List.not_mem_nil, .nil⟩, fun u hu v hv e => ?_⟩
  obtain ⟨p, hp, rfl⟩ := List.mem_map.mp hu
  have e1 : p.1 = r := by rw [e]; exact List.mem_singleton.mp hv
  exact nxt_none.mp k p.2 (by rw [← e1]; exact hp)
theorem LkI.link (h : LkI n m b) (hr : r < n) (ho : o < n) (k1 : nxt m r = none) (k2 : nxt b o = none) (nr : ¬ Rch m o r) : LkI n (m ++ [(r, o)]) (b ++ [(o, r)]) := by
  classical
  refine ⟨snoc_nd h.km k1, snoc_nd h.kb k2, fun x y => ?_, fun x y e => ?_, ?_⟩
  · rw [List.mem_append, List.mem_append, h.inv, List.mem_singleton, List.mem_singleton]
    exact ⟨fun e => e.imp id fun e => by cases e; rfl, fun e => e.imp id fun e => by cases e; rfl⟩
  · rcases List.mem_append.mp e with e | e
    · exact h.lt x y e
    · cases List.mem_singleton.mp e; exact ⟨hr, ho⟩
  · obtain ⟨rk, hrk⟩ := h.ac
    refine ⟨fun x => if Rch m o x then rk x + rk r + 1 else rk x, fun x y e => ?_⟩
    show (if Rch m o x then rk x + rk r + 1 else rk x) < (if Rch m o y then rk y + rk r + 1 else rk y)
    rcases List.mem_append.mp e with e | e
    · have := hrk x y e
      by_cases hx : Rch m o x
      · rw [if_pos hx, if_pos (hx.snoc e)]; omega
      · rw [if_neg hx]
        by_cases hy : Rch m o y
        · rw [if_pos hy]; omega
        · rw [if_neg hy]; exact this
    · cases List.mem_singleton.mp e
      rw [if_neg nr, if_pos (.refl _)]
      omega
theorem LkI.cut (h : LkI n m b) (e : (r, o) ∈ m) : LkI n (m.filter fun e => decide (e.1 ≠ r)) (b.filter fun e => decide (e.1 ≠ o)) := by
  refine ⟨(h.km.sublist (List.Sublist.map _ List.filter_sublist)), (h.kb.sublist (List.Sublist.map _ List.filter_sublist)), fun x y => ?_, fun x y k => h.lt x y (List.mem_filter.mp k).1, ?_⟩
  · rw [List.mem_filter, List.mem_filter, h.inv]
    refine and_congr_right fun k => ?_
    simp only [decide_eq_true_eq, ne_eq]
    refine not_congr ⟨fun e1 => ?_, fun e1 => ?_⟩
    · have e1 : x = r := e1
      subst e1
      have e2 : some y = some o := (nxt_of h.km ((h.inv x y).mpr k)).symm.trans (nxt_of h.km e)
      cases e2; rfl
    · have e1 : y = o := e1
      subst e1
      have e2 : some x = some r := (nxt_of h.kb k).symm.trans (nxt_of h.kb ((h.inv r y).mp e))
      cases e2; rfl
  · obtain ⟨rk, hrk⟩ := h.ac
    exact ⟨rk, fun x y k => hrk x y (List.mem_filter.mp k).1⟩
/-- how far it may go -/
def top (rk : Nat → Nat) : Mp → Nat
  | [] => 0
  | e :: l => rk e.2 + top rk l
theorem top_le {rk : Nat → Nat} {m : Mp} {r o : Nat} (h : (r, o) ∈ m) : rk o ≤ top rk m := by
  induction m with
  | nil => cases h
  | cons e l ih =>
    show rk o ≤ rk e.2 + top rk l
    cases h with
    | head => exact Nat.le_add_right _ _
    | tail _ z => exact Nat.le_trans (ih z) (Nat.le_add_left _ _)
end
/-! ### in a table -/
section
variable {K : PySem.W.Frag} {C : Addr} {A : TAd} {T : Tb} {H : Hp} {i : Nat} {q : Addr} {m' : Mp}
theorem fp_q (h : A.fp.Nodup) (e : A.qs[i]? = some q) : q ≠ A.pn ∧ q ≠ A.pb ∧ q ≠ A.pf ∧ q ≠ A.pm ∧ q ∉ A.rs ∧ A.qs.Nodup := by
  have hq := List.mem_of_getElem? e
  simp only [TAd.fp, List.nodup_cons, List.mem_cons, List.mem_append, not_or] at h
  obtain ⟨⟨h1, h2, h3, h4, h5⟩, ⟨h6, h7, h8, h9⟩, ⟨h10, h11, h12⟩, ⟨h13, h14⟩, h15⟩ := h
  have n := List.nodup_append.mp h15
  exact ⟨fun z => h4 (z ▸ hq), fun z => h8 (z ▸ hq), fun z => h11 (z ▸ hq), fun z => h13 (z ▸ hq), fun z => n.2.2 q hq q z rfl, n.1⟩
theorem fp_r (h : A.fp.Nodup) (e : A.rs[i]? = some q) : q ≠ A.pn ∧ q ≠ A.pb ∧ q ≠ A.pf ∧ q ≠ A.pm ∧ q ∉ A.qs ∧ A.rs.Nodup := by
  have hq := List.mem_of_getElem? e
  simp only [TAd.fp, List.nodup_cons, List.mem_cons, List.mem_append, not_or] at h
  obtain ⟨⟨h1, h2, h3, h4, h5⟩, ⟨h6, h7, h8, h9⟩, ⟨h10, h11, h12⟩, ⟨h13, h14⟩, h15⟩ := h
  have n := List.nodup_append.mp h15
  exact ⟨fun z => h5 (z ▸ hq), fun z => h9 (z ▸ hq), fun z => h12 (z ▸ hq), fun z => h14 (z ▸ hq), fun z => n.2.2 q z q hq rfl, n.2.1⟩
theorem Dks.set {qs : List Addr} {ms : List Mp} (h : Dks H qs ms) (nd : qs.Nodup) (e : qs[i]? = some q) : Dks (L2.upd H q (.dK (mpK m'))) qs (ms.set i m') := by
  have hi := (List.getElem?_eq_some_iff.mp e).1
  refine ⟨by rw [List.length_set]; exact h.len, fun j p m a b => ?_⟩
  rw [List.getElem?_set] at b
  by_cases hij : i = j
  · subst hij
    rw [if_pos rfl, if_pos (by rw [← h.len]; exact hi)] at b
    cases b
    rw [e] at a
    cases a
    exact upd_same
  · rw [if_neg hij] at b
    have hj := (List.getElem?_eq_some_iff.mp a).1
    have ne : p ≠ q := fun z => hij ((List.getElem?_inj hi nd).mp (by rw [e, a, z]))
    rw [upd_ne ne]
    exact h.at_ j p m a b
theorem ins_ne {u : HO} (h : TbP K C A T H) (e : H q = some u) (n : ¬ Imm (fun _ => False) u) : A.a ≠ q := fun z => by
  have := h.ins
  rw [z, e] at this
  cases this
  exact n (fun z => z)
theorem TbP.setX (h : TbP K C A T H) (e : A.qs[i]? = some q) : TbP K C A { T with nx := T.nx.set i m' } (L2.upd H q (.dK (mpK m'))) := by
  obtain ⟨n1, n2, n3, n4, n5, n6⟩ := fp_q h.nd e
  have hi := (List.getElem?_eq_some_iff.mp e).1
  have hl := h.qd.len
  have h0 := h.qd.at_ i q T.nx[i] e (List.getElem?_eq_getElem (by omega))
  have im : ¬ Imm (fun _ => False) (.dK (mpK T.nx[i])) := fun z => z
  obtain ⟨ts, h1, h2⟩ := h.fa
  exact ⟨by rw [upd_ne (ins_ne h h0 im)]; exact h.ins, sqt_upd h.so h0 im, by rw [upd_ne (Ne.symm n1)]; exact h.nx, by rw [upd_ne (Ne.symm n2)]; exact h.bf, ⟨ts, by rw [upd_ne (Ne.symm n3)]; exact h1, ⟨h2.len, fun j t r a b => sqt_upd (h2.at_ j t r a b) h0 im⟩⟩, by rw [upd_ne (Ne.symm n4)]; exact h.nu, h.qd.set n6 e, h.rd.upd n5, by rw [List.length_set]; exact h.kn, h.kb, h.nd, h.ka, h.ra⟩
theorem TbP.setB (h : TbP K C A T H) (e : A.rs[i]? = some q) : TbP K C A { T with bf := T.bf.set i m' } (L2.upd H q (.dK (mpK m'))) := by
  obtain ⟨n1, n2, n3, n4, n5, n6⟩ := fp_r h.nd e
  have hi := (List.getElem?_eq_some_iff.mp e).1
  have hl := h.rd.len
  have h0 := h.rd.at_ i q T.bf[i] e (List.getElem?_eq_getElem (by omega))
  have im : ¬ Imm (fun _ => False) (.dK (mpK T.bf[i])) := fun z => z
  obtain ⟨ts, h1, h2⟩ := h.fa
  exact ⟨by rw [upd_ne (ins_ne h h0 im)]; exact h.ins, sqt_upd h.so h0 im, by rw [upd_ne (Ne.symm n1)]; exact h.nx, by rw [upd_ne (Ne.symm n2)]; exact h.bf, ⟨ts, by rw [upd_ne (Ne.symm n3)]; exact h1, ⟨h2.len, fun j t r a b => sqt_upd (h2.at_ j t r a b) h0 im⟩⟩, by rw [upd_ne (Ne.symm n4)]; exact h.nu, h.qd.upd n5, h.rd.set n6 e, h.kn, by rw [List.length_set]; exact h.kb, h.nd, h.ka, h.ra⟩
end
end G
/-! o.m(*e, k = v) -/
namespace G
open PySem PySem.Spec PyProof.Rows L2 StX PySem.Calls PySem.W
theorem ks_loneK {M : Model} {A : Around} {E : Value → Shared → Prop} {s : Shared} {f : Value} {x : Sem Value} {pos : Pos} {keywords : List (Option Str × Sem Value)} {Q : Args → Shared → Prop} (hall : keywords.all (·.1.isSome) = true)
    (h : wpAny M A x (fun v s₁ => wpAny M A (evalAll (keywords.map (·.2))) (fun ks s₂ => StarOf M A E v (fun vs s₃ => Q ⟨vs, (keywords.filterMap (·.1)).zip ks⟩ s₃) s₂) E s₁) E s) :
    wpAny M A (evalArgs f true [(true, (do let v ← x; standAt pos; pure v))] keywords) Q E s := by
  unfold evalArgs
  refine wpAny_bind (wpAny_bind (wpAny_mono h (fun v s₁ h₁ => wpAny_bind (wpAny_standAt (wpAny_pure ?_))) fun _ _ x => x))
  refine wpAny_holding ?_
  simp only [hall, if_true]
  refine wpAny_bind (wpAny_mono h₁ (fun ks s₂ h₂ => ?_) fun _ _ x => x)
  unfold StarOf at h₂
  refine wpAny_bind (wpAny_bind (wpAny_mono h₂ (fun b s₃ h₃ => ?_) fun _ _ x => x))
  obtain ⟨rfl, h₃⟩ := h₃
  have z := wpAny_holding (vs := ((keywords.filterMap (·.1)).zip ks).map (·.2)) (wpAny_mono h₃ (fun vs s₄ h₄ => (wpAny_pure h₄ : wpAny M A (pure (⟨vs, (keywords.filterMap (·.1)).zip ks⟩ : Args)) Q E s₄)) fun _ _ x => x)
  try simp only [Bool.false_eq_true, if_false]
  first
    | exact z
    | exact wpAny_bind (wpAny_pure z)
theorem ks_callK {M : Model} {A : Around} {E : Value → Shared → Prop} {s : Shared} {f : Value} {first : List Value} {pos : Pos} {Q : Value → Shared → Prop} {P : Heap → Prop} {args : List (Bool × Sem Value)} {keywords : List (Option Str × Sem Value)} (hst : args.any (·.1) = true)
    (hk : ∀ h, P h → ∃ k, (k = Keeper.frame ∨ k = Keeper.machine ∨ k = Keeper.boundFrame) ∧ Looks M h (keeperOf f) k)
    (h : wpAny M A (evalArgs f true args keywords) (fun a s₁ => P s₁.heap ∧ wpAny M A (call f (first ++ a.pos) a.kw) Q E s₁) E s) : wpAny M A (callWith pos f first args keywords) Q E s := by
  unfold callWith
  refine wpAny_bind (wpAny_holding (wpAny_mono h (fun a s₁ h₁ => wpAny_bind (wpAny_standAt ?_)) fun _ _ x => x))
  obtain ⟨k, hk', L⟩ := hk _ h₁.1
  simp only [hst, Bool.true_or]
  refine wpAny_bind (L.here ?_)
  have tail : ∀ {t : Sem Value}, wpAny M A t Q E s₁ → wpAny M A (t >>= fun r => holding [r] point >>= fun _ => pure r) Q E s₁ :=
    fun ht => wpAny_bind (wpAny_mono ht (fun r s₂ hr => wpAny_bind (wpAny_holding (wpAny_point (wpAny_pure hr)))) fun _ _ x => x)
  have marked (mk : Value) : wpAny M A (callMarked mk f (first ++ a.pos) a.kw) Q E s₁ := by unfold callMarked; exact Calls.wpAny_keep h₁.2
  rcases hk' with rfl | rfl | rfl <;> dsimp only <;> first | exact tail (marked _) | exact tail (wpAny_operating h₁.2)
/-- a method taken off its instance -/
structure MkB (Γ : Gm) (k : Nat) (C : Addr) (m : Str) (g : Addr) (ks : List Str) (sp : List V → List V → Hp → VK → XK → Prop) : Prop where
  fn : FnRk Γ.P Γ.w Γ.K Γ.mg Γ.base CX0 k g ks sp
  c : Cls Γ.K C
  b : BMeth Γ.K C m g
theorem codeRk {X : Cx} {pins : List (Addr × Obj)} {σ : L2.St} {H : Hp} {s : Shared} {k : Nat} {f : Addr} {ks : List Str} {sp : List V → List V → Hp → VK → XK → Prop} {E : XK} {Q : VK} {us ws : List Value} {vs zs : List V} (F : FnRk X.prog X.w X.K X.mg X.base CX0 k f ks sp) (hr : Room k X.A) (I : Inv X pins σ H s) (r : Vals vs us) (rz : Vals zs ws) (hl : zs.length = ks.length) (h : sp vs zs H Q E) :
    codeAny (model X.prog X.w) X.A (.call (.ref f) ⟨us, ks.zip ws⟩) (fun r s' => match r with | .ok (.ret v) => EP X pins σ Q v s' | .ok _ => False | .error e => X.xe e s') s := by
  refine codeAny_mono (F X.A X.stack s H us ws vs zs Q E hr I.env0 r rz hl h) fun r s' hq => ?_
  cases r with
  | error e => exact (passE (X := X) (E := E)) pins σ H s e s' I hq
  | ok fl =>
    cases fl with
    | ret u => exact I.after hq
    | next => exact False.elim hq
    | brk => exact False.elim hq
    | cont => exact False.elim hq
/-- o.m(*e, k = v) -/
def tMkS (Γ : Gm) (m : Str) (ks : List Str) (ta te : TE) (tk : TA) : TE := fun σ H Q => ta σ H fun x H1 => ∃ (n : Nat) (C a dx g : Addr) (fs : List (Str × V)) (sp : List V → List V → Hp → VK → XK → Prop) (E : XK), MkB Γ n C m g ks sp ∧ n ≤ Γ.lv ∧ x = .ref a ∧ H1 a = some (.ins C dx fs) ∧ fs.lookup m = none ∧
  ∀ q, H1 q = none → te σ (L2.upd H1 q (.met g a)) fun y H2 => ∃ p, y = .ref p ∧ tk σ H2 fun zs H3 => ∃ xs, (SqT Γ.K H3 p xs ∨ SqL Γ.K H3 p xs) ∧ H3 q = some (.met g a) ∧ zs.length = ks.length ∧ sp (.ref a :: xs) zs H3 Q E
section
variable {Γ : Gm} {X : Cx} {m : Str} {o e : Expr} {kws : List Keyword} {ks : List Str} {ta te : TE} {tk : TA} {pos apos sp_ : Pos}
theorem pe_mkS (g : Good Γ X) (ho : PE X o ta) (ha : PE X e te) (hkw : PK X kws tk) (hall : (backToKw pos (keywordEach kws X.env)).all (·.1.isSome) = true := by rfl) (hks : (backToKw pos (keywordEach kws X.env)).filterMap (·.1) = ks := by rfl)
    (hst : starEach [.Starred e sp_] X.env = [(true, eval e X.env)] := by rfl) (hbase : attributeBase o m X.env (eval o X.env) = eval o X.env := by rfl) :
    PE X (.Call (.Attribute o m apos) [.Starred e sp_] kws pos) (tMkS Γ m ks ta te tk) := by
  refine ⟨fun pins s σ H Q I h => ?_⟩
  have hform : methodCallForm ([Expr.Starred e sp_].length + kws.length) (backTo pos [(true, eval e X.env)]) (backToKw pos (keywordEach kws X.env)) = false := rfl
  have hpos : methodCallPos false o X.env apos pos = pure pos := rfl
  have hcal : ∀ ov, calleeOf false o X.env ov m = (getAttr ov m true >>= fun v => pure (v, [])) := fun _ => rfl
  rw [arm_eval_Call, hbase, hst]
  refine wpAny_bind (wpAny_mono (ho.run pins s σ H _ I h) (fun u s1 ⟨x, H1, I1, rx, n, C, a, dx, g', fs, sp, E, M, hn, ex, ea, l, q⟩ => ?_) fun _ _ x => x)
  subst ex
  obtain rfl : u = Value.ref a := rx
  obtain ⟨P, w, K, mg, base, lv⟩ := Γ
  obtain ⟨h1, h2, h3, h4, h5, _, hr⟩ := g
  simp only at h1 h2 h3 h4 h5 hr
  subst h1 h2 h3 h4 h5
  refine wpAny_bind (wpAny_standAt ?_)
  unfold methodCall
  rw [hform, hpos, hcal]
  refine wpAny_bind (wpAny_holding (wpAny_bind (getbound_ok I1 ea M.c M.b l fun q1 s2 hq1 I2 => wpAny_pure ?_)))
  refine wpAny_bind (wpAny_pure ?_)
  refine ks_callK (P := PySem.W.MethP X.K q1 g' (.ref a)) rfl (PySem.W.keeps_M M.b.fi) ?_
  refine ks_loneK hall (wpAny_mono (ha.run pins s2 σ _ _ I2 (q q1 hq1)) (fun v s3 ⟨y, H2, I3, ry, p, ey, q2⟩ => ?_) fun _ _ x => x)
  subst ey
  obtain rfl : v = Value.ref p := ry
  refine wpAny_mono (hkw.run pos pins s3 σ H2 _ I3 q2) (fun ws s4 ⟨zs, H3, I4, rz, xs, hxs, hm, lz, q3⟩ => ?_) fun _ _ x => x
  refine star_any I4 hxs fun us s5 I5 rv => ⟨met_P I5 hm, ?_⟩
  rw [hks]
  exact wpAny_call (PySem.W.method_call (met_P I5 hm).1 (codeRk (us := .ref a :: us) (vs := .ref a :: xs) M.fn (hr.mono hn) I5 (.cons rfl rv) rz lz q3))
end
/-- o.m(e, *y) -/
def tMkS2 (Γ : Gm) (m : Str) (ta t1 t2 : TE) : TE := fun σ H Q => ta σ H fun x H1 => ∃ (n : Nat) (C a dx g : Addr) (fs : List (Str × V)) (sp : List V → List V → Hp → VK → XK → Prop) (E : XK), MkB Γ n C m g [] sp ∧ n ≤ Γ.lv ∧ x = .ref a ∧ H1 a = some (.ins C dx fs) ∧ fs.lookup m = none ∧
  ∀ q, H1 q = none → t1 σ (L2.upd H1 q (.met g a)) fun y1 H2 => t2 σ H2 fun y2 H3 => ∃ b vs, y2 = .ref b ∧ (SqT Γ.K H3 b vs ∨ SqL Γ.K H3 b vs) ∧ H3 q = some (.met g a) ∧ sp (.ref a :: y1 :: vs) [] H3 Q E
section
variable {Γ : Gm} {X : Cx} {m : Str} {o e1 e2 : Expr} {ta t1 t2 : TE} {pos apos p : Pos}
theorem pe_mkS2 (g : Good Γ X) (he : PE X o ta) (h1 : PE X e1 t1) (h2 : PE X e2 t2) (hbase : attributeBase o m X.env (eval o X.env) = eval o X.env := by rfl)
    (hst : starEach [e1, .Starred e2 p] X.env = [(false, eval e1 X.env), (true, eval e2 X.env)] := by rfl) : PE X (.Call (.Attribute o m apos) [e1, .Starred e2 p] [] pos) (tMkS2 Γ m ta t1 t2) := by
  refine ⟨fun pins s σ H Q I h => ?_⟩
  refine starcall2_of hbase hst (thn (he.run pins s σ H _ I h) fun u s1 ⟨x, H1, I1, rx, n, C, a, dx, g', fs, sp, E, M, hn, ex, ea, l, q⟩ => ?_)
  subst ex
  obtain rfl : u = Value.ref a := rx
  obtain ⟨P, w, K, mg, base, lv⟩ := Γ
  obtain ⟨k1, k2, k3, k4, k5, _, hr⟩ := g
  simp only at k1 k2 k3 k4 k5 hr
  subst k1 k2 k3 k4 k5
  refine getbound_ok I1 ea M.c M.b l fun q1 s2 hq1 I2 => ?_
  refine PySem.W.ks_call (P := PySem.W.MethP X.K q1 g' (.ref a)) rfl (PySem.W.keeps_M M.b.fi) (Calls.evalArgs_plain (Calls.spliced_cons (thn (h1.run pins s2 σ _ _ I2 (q q1 hq1)) fun v1 s3 ⟨y1, H2, I3, ry1, q2⟩ =>
    PySem.W.ks_spliced (thn (h2.run pins s3 σ H2 _ I3 q2) fun v2 s4 ⟨y2, H3, I4, ry2, t, vs, ey, ht, hm, hsp⟩ => ?_))))
  subst ey
  obtain rfl : v2 = Value.ref t := ry2
  refine StX.star_any I4 ht fun us s5 I5 rv => Calls.spliced_nil ?_
  show PySem.W.MethP X.K q1 g' (.ref a) s5.heap ∧ wpAny (model X.prog X.w) X.A (call (.ref q1) (v1 :: (us ++ [])) []) (EP X pins σ Q) X.xe s5
  rw [List.append_nil]
  exact ⟨met_P I5 hm, wpAny_call (PySem.W.method_call (met_P I5 hm).1 (codeRk (us := Value.ref a :: v1 :: us) (ws := []) (zs := []) (vs := V.ref a :: y1 :: vs) M.fn (hr.mono hn) I5 (.cons rfl (.cons ry1 rv)) .nil rfl hsp))⟩
end
end G
/-! what looks and tests answer at a row of a table, plainly -/
namespace G
open PySem PySem.Spec PyProof.Rows L2
/-- the links of a kind, there and back -/
def ixK (ks : List Str) (k : Str) : Option Nat := ks.findIdx? fun z => decide (z = k)
def stepB (B : Tb) (k : Str) (d : Int) (r : Nat) : Option Nat := match ixK B.ks k with
  | none => none
  | some i => if 0 < d then (B.nx[i]?).bind fun m => nxt m r else (B.bf[i]?).bind fun m => nxt m r
def marksB (B : Tb) (r : Nat) : List Str := match B.rows[r]? with
  | some u => u.1
  | none => []
/-- the row a look gives, and whether a test holds -/
def Tr.ev (B : Tb) : Tr → Nat → Option Nat × Bool
  | .z _, r => (some r, true)
  | .st k d, r => (stepB B k d r, false)
  | .mk k, r => (none, decide (k ∈ marksB B r))
  | .one w a, r => if w = Str.ofString "found" then (none, (Tr.ev B a r).1.isSome) else (none, !(Tr.ev B a r).2)
  | .two w a b, r =>
    let x := Tr.ev B a r
    let y := Tr.ev B b r
    if w = Str.ofString "when" then (if y.2 then x.1 else none, false)
    else if w = Str.ofString "then" then (match x.1 with
      | none => none
      | some o => (Tr.ev B b o).1, false)
    else if w = Str.ofString "or" then (match x.1 with
      | some o => some o
      | none => y.1, x.2 || y.2)
    else if w = Str.ofString "and" then (if x.1 = y.1 then x.1 else none, x.2 && y.2)
    else if w = Str.ofString "same" then (none, x.1.isSome && decide (x.1 = y.1))
    else (none, x.2 != y.2)
end G
/-! instances that are called; is True; isinstance of several; lists of truths -/
namespace G
open PySem PySem.Spec PyProof.Rows L2 StX
theorem codeFn {X : Cx} {pins : List (Addr × Obj)} {σ : L2.St} {H : Hp} {s : Shared} {k : Nat} {f : Addr} {fd : FuncData} {ps : List Str} {sp : Sp} {E : XK} {Q : VK} {us ds : List Value} {vs dvs : List V} (F : FnOk X.prog X.w X.K X.mg X.base CX0 k f fd ps sp) (hr : Room k X.A) (hb : Binds X.K fd ps ds) (hd : Vals dvs ds) (I : Inv X pins σ H s) (r : Vals vs us) (h : sp (vs ++ dvs) H Q E) :
    codeAny (model X.prog X.w) X.A (.call (.ref f) ⟨us, []⟩) (fun r s' => match r with | .ok (.ret v) => EP X pins σ Q v s' | .ok _ => False | .error e => X.xe e s') s := by
  have r2 : Vals (vs ++ dvs) (us ++ ds) := r.append hd
  have hl : (us ++ ds).length = ps.length := by rw [← r2.length]; exact F.len _ _ _ _ h
  refine codeAny_mono (F.run X.A X.stack s H ⟨us, []⟩ (us ++ ds) (vs ++ dvs) Q E hr I.env0 (hb s us I.kIn hl) r2 h) fun r s' hq => ?_
  cases r with
  | error e => exact (passE (X := X) (E := E)) pins σ H s e s' I hq
  | ok fl =>
    cases fl with
    | ret u => exact I.after hq
    | next => exact False.elim hq
    | brk => exact False.elim hq
    | cont => exact False.elim hq
/-- instances of C may be called -/
def CallC (K : PySem.W.Frag) (C : Addr) : Prop := ∀ f, Meth K C "__call__" f → PySem.W.fnIn K f = true
/-- f(e, ..), f an instance -/
def tCallI (Γ : Gm) (tf : TE) (t : TA) : TE := fun σ H Q => tf σ H fun y H1 => ∃ (n : Nat) (C a : Addr) (sp : Sp) (E : XK), Mt Γ CX0 n C "__call__" sp [] ∧ CallC Γ.K C ∧ n ≤ Γ.lv ∧ y = .ref a ∧ t σ H1 fun vs H2 => (∃ dx fs, H2 a = some (.ins C dx fs)) ∧ sp (.ref a :: vs) H2 Q E
section
variable {Γ : Gm} {X : Cx} {fe e : Expr} {es : List Expr} {tf : TE} {t : TA} {pos : Pos}
theorem pe_callI (g : Good Γ X) (hf : PE X fe tf) (ha : PA X (e :: es) t)
    (ht : eval (.Call fe (e :: es) [] pos) X.env = (do callWith pos (← eval fe X.env) [] (backTo pos (starEach (e :: es) X.env)) (backToKw pos (keywordEach [] X.env))) := by rfl)
    (he : starEach (e :: es) X.env = (false, eval e X.env) :: starEach es X.env := by rfl) (hpl : (backTo pos (starEach es X.env)).any (·.1) = false := by rfl) : PE X (.Call fe (e :: es) [] pos) (tCallI Γ tf t) := by
  refine ⟨fun pins s σ H Q I h => ?_⟩
  refine Call_ (thn (hf.run pins s σ H _ I h) fun u s1 ⟨y, H1, I1, ry, n, C, a, sp, E, M, cc, hn, ey, q⟩ => ?_) ht
  subst ey
  obtain rfl : u = Value.ref a := ry
  obtain ⟨P, w, K, mg, base, lv⟩ := Γ
  obtain ⟨h1, h2, h3, h4, h5, _, hr⟩ := g
  simp only at h1 h2 h3 h4 h5 hr
  subst h1 h2 h3 h4 h5
  obtain ⟨f, fd, ps, ds, F, c, hm, hbi, hd⟩ := M.ex
  refine callO_with (thn (ha.run pos pins s1 σ H1 _ I1 q) fun us s2 ⟨vs, H2, I2, r, ⟨dx, fs, hi⟩, q2⟩ => ?_) he hpl
  obtain ⟨ox, od, J, hp⟩ := insC_at (X := X) I2 (.inr ⟨dx, fs, hi⟩)
  exact ⟨⟨C, ox, od, J, hp⟩, wpAny_call (PySem.W.kco_code I2.kIn J hp hm.at_ hm.fn (cc f hm) (codeFn (us := .ref a :: us) (vs := .ref a :: vs) F (hr.mono hn) hbi hd I2 (.cons rfl r) (show sp ((V.ref a :: vs) ++ []) H2 Q E from by rw [List.append_nil]; exact q2)))⟩
theorem op_isB : OpR X (compareOp .Is) (fun x y H Q => ∃ p c, x = .bl p ∧ y = .bl c ∧ Q (.bl (decide (p = c))) H) := by
  intro pins s σ H x y v u Q I rx ry ⟨p, c, ex, ey, q⟩
  subst ex ey
  cases rx
  cases ry
  show wpAny _ _ ((isSame (Value.bool p) (Value.bool c)) >>= fun z => pure (Value.bool z)) _ _ s
  refine wpAny_bind (wpAny_isSame_plain (by cases p <;> cases c <;> rfl) (wpAny_pure (fin_bl I q ?_)))
  cases p <;> cases c <;> rfl
theorem op_isnotB : OpR X (compareOp .IsNot) (fun x y H Q => ∃ p c, x = .bl p ∧ y = .bl c ∧ Q (.bl (!decide (p = c))) H) := by
  intro pins s σ H x y v u Q I rx ry ⟨p, c, ex, ey, q⟩
  subst ex ey
  cases rx
  cases ry
  show wpAny _ _ ((isSame (Value.bool p) (Value.bool c)) >>= fun z => pure (Value.bool (!z))) _ _ s
  refine wpAny_bind (wpAny_isSame_plain (by cases p <;> cases c <;> rfl) (wpAny_pure (fin_bl I q ?_)))
  cases p <;> cases c <;> rfl
end
section
variable {Γ : Gm} {H : Hp} {Q : VK} {p c : Bool}
theorem wo_isB (q : Q (.bl (decide (p = c))) H) : WO Γ (compareOp .Is) (.bl p) (.bl c) H Q := ⟨_, fun X g => op_isB, p, c, rfl, rfl, q⟩
theorem wo_notB (q : Q (.bl (!decide (p = c))) H) : WO Γ (compareOp .IsNot) (.bl p) (.bl c) H Q := ⟨_, fun X g => op_isnotB, p, c, rfl, rfl, q⟩
theorem wc_isiT {x : V} {tp : Addr} {cs : List V} {t : Value} {us : List Value} {b : Bool} (hT : H tp = some (.tup cs)) (k : Paired ClsV cs us) (ty : TyX Γ.K H x t) (e : PySem.W.kitAny Γ.K t us = some b) (q : Q (.bl b) H) : WC Γ (.builtin "isinstance") [x, .ref tp] H Q :=
  ⟨rIsiT Γ.K, fun X g => (by have := call_isiT (X := X); rw [g.K] at this; exact this), x, tp, cs, t, us, b, rfl, hT, k, ty, e, q⟩
end
section
variable {K : PySem.W.Frag} {a b : Addr} {xs ys : List V}
theorem walk_zipT {n : Nat} (hn : n = min xs.length ys.length) : Walk (RZ.ItzT K a b) n (fun H => SqT K H a xs ∧ SqT K H b ys) (YPair (fun i => xs[i]?) (fun i => ys[i]?)) := by
  subst hn
  refine ⟨fun i _ hi q => ?_, fun _ q => ⟨xs, ys, q.1, q.2, by omega⟩, fun i H v H' _ q y => ?_⟩
  · have h1 : i < xs.length := by omega
    have h2 : i < ys.length := by omega
    exact ⟨xs, ys, xs[i], ys[i], q.1, q.2, by simp [h1], by simp [h2]⟩
  · obtain ⟨T, x, z, h1, h2, h3, h4, h5⟩ := y
    exact ⟨T, x, z, h1, h2, h3, h4 xs q.1, h5 ys q.2⟩
theorem pi_zA {Γ : Gm} {X : Cx} {e e2 : Expr} {ta : TA} {p pos tpos : Pos} {elts : List Expr} {kk : Nat} (g : Good Γ X) (hg : gvB X.env.scope "zip" = true) (hm : X.mg "zip" = none) (ha : PA X [e, e2] ta)
    (hs : starEach [e, e2] X.env = (false, eval e X.env) :: starEach [e2] X.env := by rfl) (hpl : (backTo pos (starEach [e2] X.env)).any (·.1) = false := by rfl) :
    PI X (.Tuple elts kk tpos) (.Call (.Name "zip" p) [e, e2] [] pos) (RZ.iZipA Γ.K ta) := by rw [← g.K]; exact RZ.pi_zipA (gv_of hg).1 hm ha hs hpl
theorem sql_ty {p : Addr} {H : Hp} {xs : List V} (h : SqL K H p xs) : TyX K H (.ref p) (.type "list") := by
  rcases h with (h | ⟨o, h⟩) | ⟨o, its, n, h1, h2, h3, h4, h5, h6⟩
  · exact .base (.lst h)
  · exact .base (.frz h)
  · exact .kList h1 h2
end
/-! ### data of few items -/
mutual
def few : PyData → Prop
  | .list ds => ds.length < 100000 ∧ fewA ds
  | .tuple ds => ds.length < 100000 ∧ fewA ds
  | _ => True
def fewA : List PyData → Prop
  | [] => True
  | d :: ds => few d ∧ fewA ds
end
theorem fewA_mem : ∀ {ds : List PyData} {d : PyData}, fewA ds → d ∈ ds → few d
  | _ :: _, _, h, .head _ => h.1
  | _ :: _, _, h, .tail _ m => fewA_mem h.2 m
theorem depthA_mem : ∀ {ds : List PyData} {d : PyData}, d ∈ ds → d.depth ≤ PyData.depthAll ds
  | d :: ds, _, .head _ => by simp only [PyData.depthAll]; omega
  | _ :: ds, d, .tail _ m => by have := depthA_mem m; simp only [PyData.depthAll]; omega
theorem DpAll.at_ {K : PySem.W.Frag} {H : Hp} : ∀ {xs : List V} {ds : List PyData}, DpAll K H xs ds → ∀ {i : Nat} {x : V}, xs[i]? = some x → ∃ d, ds[i]? = some d ∧ Dp K H x d
  | _, _, .cons h _, 0, _, e => by cases e; exact ⟨_, rfl, h⟩
  | _, _, .cons _ t, i + 1, _, e => DpAll.at_ t e
theorem DpAll.len {K : PySem.W.Frag} {H : Hp} : ∀ {xs : List V} {ds : List PyData}, DpAll K H xs ds → xs.length = ds.length
  | _, _, .nil => rfl
  | _, _, .cons _ t => congrArg (· + 1) (DpAll.len t)
mutual
theorem Dp.same {K : PySem.W.Frag} {H H' : Hp} (s : Same H H') : ∀ {x : V} {d : PyData}, Dp K H x d → Dp K H' x d
  | _, _, .non => .non
  | _, _, .bl b => .bl b
  | _, _, .int i => .int i
  | _, _, .str x => .str x
  | _, _, .lst h t => .lst ((Fr.of (S := []) s).sql h List.not_mem_nil) (DpAll.same s t)
  | _, _, .tup h t => .tup ((Fr.of (S := []) s).sqt h List.not_mem_nil) (DpAll.same s t)
theorem DpAll.same {K : PySem.W.Frag} {H H' : Hp} (s : Same H H') : ∀ {xs : List V} {ds : List PyData}, DpAll K H xs ds → DpAll K H' xs ds
  | _, _, .nil => .nil
  | _, _, .cons h t => .cons (Dp.same s h) (DpAll.same s t)
end
def dty : PyData → String
  | .none => "NoneType"
  | .bool _ => "bool"
  | .int _ => "int"
  | .str _ => "str"
  | .list _ => "list"
  | _ => "tuple"
theorem Dp.ty {K : PySem.W.Frag} {H : Hp} {x : V} {d : PyData} (h : Dp K H x d) : TyX K H x (.type (dty d)) := by
  cases h with
  | non => exact .base .non
  | bl b => exact .base (.bl b)
  | int i => exact .base (.int i)
  | str z => exact .base (.str z)
  | lst h _ => exact sql_ty h
  | tup h _ => exact sqt_ty h
theorem kit2 {K : PySem.W.Frag} {a b c : String} {r1 r2 : Bool} (h1 : kitB a b = some r1) (h2 : kitB a c = some r2) : PySem.W.kitAny K (.type a) [.type b, .type c] = some (r1 || r2) := by
  refine kitAny_cons (kit_ty h1) (fun e => ?_) (fun e => by rw [e]; rfl)
  rw [e]
  exact kitAny_cons (kit_ty h2) (fun e2 => by rw [e2]; rfl) (fun e2 => by rw [e2]; rfl)
theorem wc_isi1 {Γ : Gm} {H : Hp} {Q : VK} {x : V} {d : PyData} {b : String} {r : Bool} (h : Dp Γ.K H x d) (k : kitB (dty d) b = some r) (q : Q (.bl r) H) : WC Γ (.builtin "isinstance") [x, .ty b] H Q := wc_isi (.ty b) (Dp.ty h) (kit_ty k) q
theorem wc_isi2 {Γ : Gm} {H : Hp} {Q : VK} {x : V} {d : PyData} {b c : String} {r1 r2 : Bool} {T : Addr} (h : Dp Γ.K H x d) (hT : H T = some (.tup [.ty b, .ty c])) (k1 : kitB (dty d) b = some r1) (k2 : kitB (dty d) c = some r2) (q : Q (.bl (r1 || r2)) H) : WC Γ (.builtin "isinstance") [x, .ref T] H Q :=
  wc_isiT hT (.cons (.ty b) (.cons (.ty c) .nil)) (Dp.ty h) (kit2 k1 k2) q
end G
/-! tuple + tuple, tuple * int, whatever they are -/
namespace G
open PySem PySem.Spec PyProof.Rows L2
theorem tuple_mulS (l : Addr) (items : Array Value) (n : Nat) (dd : Option Addr) (sl : Array (Option Value)) (x : Int) (u : Tok) (c0 : (decide (x < -(2 ^ 63)) || decide (x ≥ 2 ^ 63)) = false) (c1 : (items.isEmpty || x == 1) = true) :
    Meets (Builtin.«tuple.__mul__» ⟨[.ref l, .int x u], []⟩) (fun _ R s => s.heap.get? l = some { cls := .type "tuple", dict := dd, data := .seq items n, slots := sl } ∧
      R (.ok (.ret (Value.ref l))) s) :=
  .of_wp fun prog w A R s h => by
    obtain ⟨hp, g, d, tk, os⟩ := s
    obtain ⟨hl, h⟩ := h
    have f1 := AutoSeq1.idx_int
    wp_walk using wpAny_loadPart' hl
    refine wpAny_ite_false (decide_eq_false (by rw [c0]; exact Bool.false_ne_true)) ?_
    wp_walk using wpAny_loadPart' hl
    exact ⟨_, rfl, h⟩
theorem tuple_mul0 (l : Addr) (items : Array Value) (n : Nat) (dd : Option Addr) (sl : Array (Option Value)) (x : Int) (u : Tok) (c0 : (decide (x < -(2 ^ 63)) || decide (x ≥ 2 ^ 63)) = false) (c1 : (items.isEmpty || x == 1) = false) (c2 : (decide (x ≤ 0) || items.isEmpty) = true) :
    Meets (Builtin.«tuple.__mul__» ⟨[.ref l, .int x u], []⟩) (fun _ R s => s.heap.get? l = some { cls := .type "tuple", dict := dd, data := .seq items n, slots := sl } ∧
      R (.ok (.ret (Value.ref s.heap.objs.size))) { s with heap := s.heap.push { cls := Value.type "tuple", data := Data.seq #[] }, toks := s.toks }) :=
  .of_wp fun prog w A R s h => by
    obtain ⟨hp, g, d, tk, os⟩ := s
    obtain ⟨hl, h⟩ := h
    have f1 := AutoSeq1.idx_int
    wp_walk using wpAny_loadPart' hl
    refine wpAny_ite_false (decide_eq_false (by rw [c0]; exact Bool.false_ne_true)) ?_
    wp_walk using wpAny_loadPart' hl
    repeat (first
      | (refine wpAny_ite_false (decide_eq_false (by rw [c1]; exact Bool.false_ne_true)) ?_; wp_walk using wpAny_loadPart' hl)
      | (refine wpAny_ite_true (decide_eq_true (by rw [c2])) ?_; wp_walk using wpAny_loadPart' hl))
    exact ⟨_, rfl, h⟩
section
variable {X : Cx}
def rRepS (K : PySem.W.Frag) : R2 := fun x y H Q => ∃ l k xs, x = .ref l ∧ y = .int k ∧ SqT K H l xs ∧ (xs = [] ∨ k = 1) ∧ 0 ≤ k ∧ k ≤ 1000 ∧ Q (.ref l) H
theorem op_repS : OpR X (binaryOp .Mult) (rRepS X.K) := by
  intro pins s σ H x y v u Q I rx ry h
  obtain ⟨l, k, xs, rfl, rfl, hT, hne, h1, h2, q⟩ := h
  cases rx
  obtain ⟨t, rfl⟩ := ry
  obtain ⟨its, r, ⟨⟨cls, dd, data, sl⟩, ho, hc, n, hd⟩, hs⟩ := I.tuple hT
  simp only at hc hd
  subst hc hd
  have hle : its.length = xs.length := r.length.symm
  have c0 : (decide (k < -(2 ^ 63)) || decide (k ≥ 2 ^ 63)) = false := by
    rw [decide_eq_false (by omega), decide_eq_false (by omega)] <;> rfl
  have c1 : (its.toArray.isEmpty || k == 1) = true := by
    rcases hne with e | e
    · have : its = [] := List.eq_nil_of_length_eq_zero (by rw [hle, e]; rfl)
      rw [this]
      rfl
    · rw [e]
      simp
  refine wpAny_binaryOp_repeat_ref (T := "tuple") (U := "int") (by decide) ⟨_, ho, rfl⟩ (fun s' => typeIs_int s' k t) noFill_tuple_mul F.fills_int_mul F.slot_int_rmul repeat_tuple F.slot_int_index.lookup
    (call_meets F.slot_int_rmul (typeIs_int s k t) F.entry_int_rmul (F.args_int_rmul_2 _ _) (int_rmul_tuple k t l its.toArray n dd sl)
      ⟨ho, rfl, ⟨_, ho, rfl⟩, call_meets F.slot_tuple_mul ⟨_, ho, rfl⟩ F.entry_tuple_mul (F.args_tuple_mul_2 _ _) (tuple_mulS l its.toArray n dd sl k t c0 c1) ⟨ho, ?_⟩⟩)
  exact ⟨.ref l, H, I, rfl, q⟩
def rRep0 (K : PySem.W.Frag) : R2 := fun x y H Q => ∃ l xs, x = .ref l ∧ y = .int 0 ∧ SqT K H l xs ∧ xs ≠ [] ∧ ∀ p, H p = none → Q (.ref p) (upd H p (.tup []))
theorem op_rep0 : OpR X (binaryOp .Mult) (rRep0 X.K) := by
  intro pins s σ H x y v u Q I rx ry h
  obtain ⟨l, xs, rfl, rfl, hT, hne, q⟩ := h
  cases rx
  obtain ⟨t, rfl⟩ := ry
  obtain ⟨its, r, ⟨⟨cls, dd, data, sl⟩, ho, hc, n, hd⟩, hs⟩ := I.tuple hT
  simp only at hc hd
  subst hc hd
  have hle : its.length = xs.length := r.length.symm
  have hn : its ≠ [] := fun e => hne (by
    rw [e] at hle
    exact List.eq_nil_of_length_eq_zero hle.symm)
  have hi : its.toArray.isEmpty = false := by
    cases its with
    | nil => exact absurd rfl hn
    | cons a b => rfl
  have c0 : (decide ((0 : Int) < -(2 ^ 63)) || decide ((0 : Int) ≥ 2 ^ 63)) = false := by decide
  have c1 : (its.toArray.isEmpty || (0 : Int) == 1) = false := by
    rw [hi, Bool.false_or]
    rfl
  have c2 : (decide ((0 : Int) ≤ 0) || its.toArray.isEmpty) = true := by simp
  refine wpAny_binaryOp_repeat_ref (T := "tuple") (U := "int") (by decide) ⟨_, ho, rfl⟩ (fun s' => typeIs_int s' 0 t) noFill_tuple_mul F.fills_int_mul F.slot_int_rmul repeat_tuple F.slot_int_index.lookup
    (call_meets F.slot_int_rmul (typeIs_int s 0 t) F.entry_int_rmul (F.args_int_rmul_2 _ _) (int_rmul_tuple 0 t l its.toArray n dd sl)
      ⟨ho, rfl, ⟨_, ho, rfl⟩, call_meets F.slot_tuple_mul ⟨_, ho, rfl⟩ F.entry_tuple_mul (F.args_tuple_mul_2 _ _) (tuple_mul0 l its.toArray n dd sl 0 t c0 c1 c2) ⟨ho, ?_⟩⟩)
  refine ⟨.ref s.heap.objs.size, _, I.laid (t' := s.toks) (o := .tup []) (fun b ob q => Heap.get?_push_of_some _ q) (Nat.le_refl _) ?_, rfl, q _ (I.hok.fresh (Nat.le_refl _))⟩
  exact ⟨Nat.zero_le _, [], .nil, IsTup.new _ _⟩
end
section
variable {Γ : Gm} {H : Hp} {Q : VK} {l b : Addr} {xs ys : List V}
/-- t * n -/
theorem wo_repA {n : Nat} (h : SqT Γ.K H l xs) (hn : n ≤ 1000) (hl : xs.length ≤ 1000) (q : ∀ p H', Same H H' → SqT Γ.K H' p (List.replicate n xs).flatten → Q (.ref p) H') : WO Γ (binaryOp .Mult) (.ref l) (.int n) H Q := by
  by_cases h1 : xs = [] ∨ n = 1
  · have e : (List.replicate n xs).flatten = xs := by
      rcases h1 with h1 | h1
      · rw [h1]; simp
      · rw [h1]; simp
    exact ⟨rRepS Γ.K, fun X g => (by have := op_repS (X := X); rw [g.K] at this; exact this), l, n, xs, rfl, rfl, h, h1.imp id (fun e => by rw [e]; rfl), by omega, by omega, q l H (Same.refl _) (by rw [e]; exact h)⟩
  · have hne : xs ≠ [] := fun z => h1 (.inl z)
    match n with
    | 0 => exact ⟨rRep0 Γ.K, fun X g => (by have := op_rep0 (X := X); rw [g.K] at this; exact this), l, xs, rfl, rfl, h, hne, fun p hp => q p _ (Same.mk hp) (SqT.of upd_same)⟩
    | 1 => exact absurd (.inr rfl) h1
    | n + 2 => exact ⟨rRepT Γ.K, fun X g => (by have := op_repT (X := X); rw [g.K] at this; exact this), l, ((n + 2 : Nat) : Int), xs, rfl, rfl, h, hne, by omega, by omega, hl, fun p hp => q p _ (Same.mk hp) (by rw [Int.toNat_natCast]; exact SqT.of upd_same)⟩
/-- t + u -/
theorem wo_catT (ha : SqT Γ.K H l xs) (hb : SqT Γ.K H b ys) (hl : xs.length + ys.length ≤ sizeLine) (q : ∀ p H', Same H H' → SqT Γ.K H' p (xs ++ ys) → Q (.ref p) H') : WO Γ (binaryOp .Add) (.ref l) (.ref b) H Q :=
  ⟨rCatA Γ.K, fun X g => (by have := op_catA (X := X); rw [g.K] at this; exact this), l, b, xs, ys, rfl, rfl, ha, hb, hl, fun e => q b H (Same.refl _) (by rw [e]; exact hb), fun _ e => q l H (Same.refl _) (by rw [e, List.append_nil]; exact ha), fun _ _ p hp => q p _ (Same.mk hp) (SqT.of upd_same)⟩
end
end G
/-! what the top leaves: defs by their places, facts by Bools -/
namespace G
open PySem PySem.Spec PyProof.Rows L2
/-- a def: where it stands, its names, its statement, its defaults -/
structure DE where
  loc : PySem.W.Frag → Addr
  name : Str
  qual : Str
  st : Stmt
  dfl : PySem.W.Frag → List V := fun _ => []
  kwd : List (Str × V) := []
def DE.ok (K : PySem.W.Frag) (d : DE) : Bool := PySem.W.keepIn K (.ref (d.loc K)) && (match K.lookup (d.loc K) with
  | some ⟨_, _, .func fd, _⟩ => PySem.W.codeIn K fd.code d.qual && (He.dflB K fd.defaults (d.dfl K) && He.kwdB K fd.kwdefaults d.kwd)
  | _ => false)
def DE.fn (K : PySem.W.Frag) (d : DE) : He.FnW := match K.lookup (d.loc K) with
  | some ⟨_, _, .func fd, _⟩ => some (fd.name, fd.qualname, fd.params, fd.body, fd.scope, fd.globals, fd.closure, fd.builtins)
  | _ => none
def DE.val (d : DE) : He.FnW := some (d.name, d.qual, defArgs d.st, .stmts (defBody d.st), defScope d.st, mainGlobals, [], builtinsNs)
theorem DE.funD {K : PySem.W.Frag} {d : DE} (e : d.fn K = d.val) (c : d.ok K = true) : ∃ fd, FunD K d.name d.qual (defArgs d.st) (defBody d.st) (defScope d.st) (d.dfl K) d.kwd (d.loc K) fd := by
  obtain ⟨kp, c2⟩ := He.ba c
  unfold DE.fn at e
  cases q : K.lookup (d.loc K) with
  | none => rw [q] at c2; cases c2
  | some o =>
    obtain ⟨oc, od, dt, osl⟩ := o
    rw [q] at c2 e
    cases dt with
    | func fd =>
      obtain ⟨n1, n2, n3, n4, n5, n6, n7, n8, n9, n10, n11, n12, n13, n14, n15⟩ := fd
      have e2 : (some (n1, n2, n3, n4, n5, n6, n7, n15) : He.FnW) = some (d.name, d.qual, defArgs d.st, .stmts (defBody d.st), defScope d.st, mainGlobals, [], builtinsNs) := e
      simp only [Option.some.injEq, Prod.mk.injEq] at e2
      obtain ⟨h1, h2, h3, h4, h5, h6, h7, h8⟩ := e2
      subst h1 h2 h3 h4 h5 h6 h7 h8
      obtain ⟨k1, k2⟩ := He.ba (show (PySem.W.codeIn K n13 d.qual && (He.dflB K n8 (d.dfl K) && He.kwdB K n9 d.kwd)) = true from c2)
      obtain ⟨k2, k3⟩ := He.ba k2
      exact ⟨_, ⟨oc, od, n8, n9, n10, n11, n12, n13, n14, osl, rfl, q, k1, He.dflB_ok k2, He.kwdB_ok k3⟩, kp⟩
    | _ => cases c2
theorem fun_of {K : PySem.W.Frag} {x q : Str} {st : Stmt} {f : Addr} {fd : FuncData} (F : FunD K x q (defArgs st) (defBody st) (defScope st) [] [] f fd) : L2.Fun K x q st f fd := by
  obtain ⟨oc, od, dV, kV, doc, pm, an, cdv, ct, osl, e, lk, hcd, hD, _⟩ := F.ex
  rcases hD with ⟨_, rfl⟩ | ⟨h, _⟩
  · exact ⟨⟨oc, od, kV, doc, pm, an, cdv, ct, osl, e, lk, hcd⟩, F.kp⟩
  · exact absurd rfl h
/-- a property's getter -/
def ppA (K : PySem.W.Frag) (C m : Str) : Addr := He.ma K (He.ga K C) m
def pgA (K : PySem.W.Frag) (C m : Str) : Addr := match PySem.W.recIn K (ppA K C m) "property" with
  | some (.ref g :: _) => g
  | _ => 0
abbrev AlE : Type := Bool × List He.FnW
def obsE (ex : List (PySem.W.Frag → Bool)) (fn : List DE) (K : PySem.W.Frag) : AlE := ((ex.all fun f => f K) && fn.all fun d => d.ok K, fn.map fun d => d.fn K)
def valE (fn : List DE) : AlE := (true, fn.map DE.val)
def SaysE (ex : List (PySem.W.Frag → Bool)) (fn : List DE) (K : PySem.W.Frag) : Prop := obsE ex fn K = valE fn
def obsEG (n : Nat) (ex : List (PySem.W.Frag → Bool)) (fn : List DE) (g : Addr → Option Obj) : AlE := obsE ex fn (He.frG g (He.asD g n))
def hookE (n : Nat) (ex : List (PySem.W.Frag → Bool)) (fn : List DE) : PySem.W.Hook where
  α := AlE
  obs := fun s => obsEG n ex fn s.heap.get?
  val := fun _ => valE fn
  says := fun _ h => ∃ K : PySem.W.Frag, K.In h ∧ SaysE ex fn K
  of := fun _ _ e => ⟨_, He.frG_in, e⟩
  keeps := fun _ _ _ ⟨K, hK, c⟩ k => ⟨K, PySem.W.Frag.In.keeps hK k, c⟩
theorem obsEG_eq {n : Nat} {ex : List (PySem.W.Frag → Bool)} {fn : List DE} {g : Addr → Option Obj} {s : Shared} (h : ∀ a, g a = s.heap.get? a) : obsEG n ex fn g = (hookE n ex fn).obs s := by
  have e : g = s.heap.get? := funext h
  rw [e] <;> rfl
section
variable {ex : List (PySem.W.Frag → Bool)} {fn : List DE} {K : PySem.W.Frag}
theorem SaysE.fact (c : SaysE ex fn K) {f : PySem.W.Frag → Bool} (i : Nat) (h : ex[i]? = some f) : f K = true :=
  List.all_eq_true.mp (He.ba (show ((ex.all fun f => f K) && fn.all fun d => d.ok K) = true from congrArg (fun z : AlE => z.1) c)).1 f (List.mem_of_getElem? h)
theorem SaysE.def_ (c : SaysE ex fn K) {d : DE} (i : Nat) (h : fn[i]? = some d) : ∃ fd, FunD K d.name d.qual (defArgs d.st) (defBody d.st) (defScope d.st) (d.dfl K) d.kwd (d.loc K) fd := by
  have c2 := (He.ba (show ((ex.all fun f => f K) && fn.all fun d => d.ok K) = true from congrArg (fun z : AlE => z.1) c)).2
  have e : fn.map (fun d => d.fn K) = fn.map DE.val := congrArg (fun z : AlE => z.2) c
  have e2 : (fn.map fun d => d.fn K)[i]? = (fn.map DE.val)[i]? := by rw [e]
  rw [List.getElem?_map, List.getElem?_map, h] at e2
  exact DE.funD (Option.some.inj e2) (List.all_eq_true.mp c2 d (List.mem_of_getElem? h))
end
/-! ### facts as Bools -/
def eqB (a b : Option (Option Value)) : Bool := decide (a = b)
def okFa (f : He.Fa) (K : PySem.W.Frag) : Bool := f.ok K
section
variable {K : PySem.W.Frag} {P : Program} {w : World} {mg : Str → Option Value} {base h : Heap}
theorem cls_of {x : Str} (c : okFa (.cls x) K = true) : Cls K (He.ga K x) := by
  obtain ⟨h1, c⟩ := He.ba c
  obtain ⟨h2, c⟩ := He.ba c
  obtain ⟨h3, h4⟩ := He.ba c
  exact ⟨h1, h2, h3, He.eqO_ok h4⟩
theorem noat_of {x f : Str} (c : okFa (.noat x f) K = true) : NoAttr K (He.ga K x) f := He.eqO_ok c
theorem meth_of {x m : Str} (c : okFa (.meth x m) K = true) : Meth K (He.ga K x) m (He.ma K (He.ga K x) m) := by
  obtain ⟨h1, c⟩ := He.ba c
  obtain ⟨h2, h3⟩ := He.ba c
  exact ⟨He.eqO_ok h1, h2, h3⟩
theorem mkr_of {x : Str} (c : okFa (.mkr x) K = true) : Mk K (He.ga K x) (He.ma K (He.ga K x) "__init__") := by
  obtain ⟨h1, c⟩ := He.ba c
  obtain ⟨h2, c⟩ := He.ba c
  obtain ⟨h3, h4⟩ := He.ba c
  exact ⟨h1, He.eqO_ok h2, h3, h4⟩
/-- an own class -/
def klsB (x : Str) (K : PySem.W.Frag) : Bool := okFa (.cls x) K && (PySem.W.selfFirst K (He.ga K x) && (eqB (PySem.W.findIn K (.ref (He.ga K x)) "__class__") (some (some (.builtin "object.__class__"))) && (eqB (PySem.W.specialIn K (.builtin "object.__class__") "__get__") (some (some (.builtin "getset_descriptor.__get__"))) &&
  (decide (PySem.W.takesIn K (.builtin "object.__class__") = some true) && decide (PySem.W.mroIn K (He.ga K x) (.type "object") = some true)))))
theorem kls_of {lv : Nat} {x : Str} (c : klsB x K = true) : Kls ⟨P, w, K, mg, base, lv⟩ (He.ga K x) := by
  obtain ⟨h1, c⟩ := He.ba c
  obtain ⟨h2, c⟩ := He.ba c
  obtain ⟨h3, c⟩ := He.ba c
  obtain ⟨h4, c⟩ := He.ba c
  obtain ⟨h5, h6⟩ := He.ba c
  exact ⟨cls_of h1, h2, of_decide_eq_true h3, of_decide_eq_true h4, of_decide_eq_true h5, of_decide_eq_true h6⟩
/-- a property -/
def propB (x m : Str) (K : PySem.W.Frag) : Bool := eqB (PySem.W.findIn K (.ref (He.ga K x)) m) (some (some (.ref (ppA K x m)))) && (eqB (PySem.W.specialIn K (.ref (ppA K x m)) "__get__") (some (some (.builtin "property.__get__"))) && (decide (PySem.W.takesIn K (.ref (ppA K x m)) = some true) &&
  (match PySem.W.recIn K (ppA K x m) "property" with
    | some (.ref _ :: _) => true
    | _ => false)))
theorem prop_of {x m : Str} (c : propB x m K = true) : PropOf K (He.ga K x) m (ppA K x m) (pgA K x m) := by
  obtain ⟨h1, c⟩ := He.ba c
  obtain ⟨h2, c⟩ := He.ba c
  obtain ⟨h3, h4⟩ := He.ba c
  refine ⟨of_decide_eq_true h1, of_decide_eq_true h2, of_decide_eq_true h3, ?_⟩
  unfold pgA
  split at h4
  · rename_i g rest e
    exact ⟨rest, by rw [e]⟩
  · cases h4
def kitB (t u : PySem.W.Frag → Value) (b : Bool) (K : PySem.W.Frag) : Bool := decide (PySem.W.kitOne K (t K) (u K) = some b)
/-- a class that holds a tree -/
def kfB (x : Str) (K : PySem.W.Frag) : Bool := klsB x K && (okFa (.noat x "form") K && (okFa (.glo x) K && (kitB (fun K => .ref (He.ga K x)) (fun K => .ref (He.ga K x)) true K && (kitB (fun _ => .type "tuple") (fun K => .ref (He.ga K x)) false K && eqB (PySem.W.findIn K (.ref (He.ga K x)) "__ne__") (some (some (.builtin "object.__ne__")))))))
theorem kf_of {lv : Nat} {x : Str} (X : K.In h) (N : h.Ns mainGlobals mg) (c : kfB x K = true) : KF ⟨P, w, K, mg, base, lv⟩ x (He.ga K x) := by
  obtain ⟨h1, c⟩ := He.ba c
  obtain ⟨h2, c⟩ := He.ba c
  obtain ⟨h3, c⟩ := He.ba c
  obtain ⟨h4, c⟩ := He.ba c
  obtain ⟨h5, h6⟩ := He.ba c
  exact ⟨kls_of h1, noat_of h2, He.glo_ok X N h3, of_decide_eq_true h4, of_decide_eq_true h5, of_decide_eq_true h6⟩
def gaV (x : Str) (K : PySem.W.Frag) : Value := .ref (He.ga K x)
def keB (K : PySem.W.Frag) : Bool := kfB "Look" K && (kfB "Test" K && (PySem.W.notFirst K (He.ga K "Look") (gaV "Look" K) && (PySem.W.notFirst K (He.ga K "Look") (gaV "Test" K) && (PySem.W.notFirst K (He.ga K "Test") (gaV "Look" K) && (PySem.W.notFirst K (He.ga K "Test") (gaV "Test" K) && (PySem.W.notFirst K (He.ga K "Test") (.type "tuple") &&
  (kitB (gaV "Look") (gaV "Test") false K && kitB (gaV "Test") (gaV "Look") false K)))))))
theorem ke_of {lv : Nat} (X : K.In h) (N : h.Ns mainGlobals mg) (c : keB K = true) : KE ⟨P, w, K, mg, base, lv⟩ (He.ga K "Look") (He.ga K "Test") := by
  obtain ⟨h1, c⟩ := He.ba c
  obtain ⟨h2, c⟩ := He.ba c
  obtain ⟨h3, c⟩ := He.ba c
  obtain ⟨h4, c⟩ := He.ba c
  obtain ⟨h5, c⟩ := He.ba c
  obtain ⟨h6, c⟩ := He.ba c
  obtain ⟨h7, c⟩ := He.ba c
  obtain ⟨h8, h9⟩ := He.ba c
  exact ⟨kf_of X N h1, kf_of X N h2, h3, h4, h5, h6, h7, of_decide_eq_true h8, of_decide_eq_true h9⟩
def kpwB (x : Str) (K : PySem.W.Frag) : Bool := eqB (PySem.W.findIn K (.ref (He.ga K x)) (dunderR Operator.Pow.info.2)) (some none) && ((PySem.W.findIn K (.type "int") (PySem.dunder Operator.Pow.info.2)).isSome && ((PySem.W.findIn K (.type "int") (dunderR Operator.Pow.info.2)).isSome && decide (PySem.W.subIn K (.type "int") (.ref (He.ga K x)) = some false)))
theorem kpw_of {lv : Nat} {x : Str} (c : kpwB x K = true) : KPw ⟨P, w, K, mg, base, lv⟩ (He.ga K x) := by
  obtain ⟨h1, c⟩ := He.ba c
  obtain ⟨h2, c⟩ := He.ba c
  obtain ⟨h3, h4⟩ := He.ba c
  exact ⟨⟨none, of_decide_eq_true h1, .inl rfl⟩, Option.isSome_iff_exists.mp h2, Option.isSome_iff_exists.mp h3, of_decide_eq_true h4⟩
def kinB (x : Str) (K : PySem.W.Frag) : Bool := match PySem.W.clsIn K (He.ga K x) with
  | some cd => cd.mro.all fun c => eqB (PySem.W.findIn K c (dunderI Operator.RShift.info.2)) (some none)
  | none => false
theorem kin_of {lv : Nat} {x : Str} (c : kinB x K = true) : KIn ⟨P, w, K, mg, base, lv⟩ (He.ga K x) := by
  unfold kinB at c
  split at c
  · rename_i cd e
    exact ⟨cd, e, fun v hv => of_decide_eq_true (List.all_eq_true.mp c v hv)⟩
  · cases c
/-! ### defs -/
theorem dfn_of {lv : Nat} {x : Str} {st : Stmt} {ps : List Str} {fd : FuncData} (X : K.In h) (N : h.Ns mainGlobals mg) (g : okFa (.glo x) K = true) (F : FunD K x x (defArgs st) (defBody st) (defScope st) [] [] (He.ga K x) fd) (b : Binds K fd ps []) : Dfn ⟨P, w, K, mg, base, lv⟩ x st ps :=
  ⟨_, fd, fun_of F, He.glo_ok X N g, b⟩
theorem dfm_of {lv : Nat} {x m q : Str} {st : Stmt} {ps : List Str} {fd : FuncData} (c : okFa (.cls x) K = true) (m' : okFa (.meth x m) K = true) (F : FunD K m q (defArgs st) (defBody st) (defScope st) [] [] (He.ma K (He.ga K x) m) fd) (b : Binds K fd ps []) : DfM ⟨P, w, K, mg, base, lv⟩ (He.ga K x) m q st ps :=
  ⟨_, fd, fun_of F, cls_of c, meth_of m', b⟩
theorem dfp_of {lv : Nat} {x m q : Str} {st : Stmt} {ps : List Str} {fd : FuncData} (c : okFa (.cls x) K = true) (p : propB x m K = true) (F : FunD K m q (defArgs st) (defBody st) (defScope st) [] [] (pgA K x m) fd) (b : Binds K fd ps []) : DfP ⟨P, w, K, mg, base, lv⟩ (He.ga K x) m q st ps :=
  ⟨_, _, fd, fun_of F, cls_of c, prop_of p, b⟩
end
/-- the law's own def -/
theorem fun_top {Γ : Gm} {x : Str} {st : Stmt} {ps N : List Str} {k : Nat} {sp : Sp} {f : Addr} {fd : FuncData} (F : L2.Fun Γ.K x x st f fd) (S : FnScope N ps (defScope st)) (len : ∀ vs H Q E, sp vs H Q E → vs.length = ps.length)
    (hbody : ∀ (f : Addr) (cdv : Value) (A : Around) (outer : List Env) (s : Shared) (H : Hp) (vs : List V) (Q : VK) (E : XK), Good (Γ.at k) (cxOf CX0 Γ.P Γ.w Γ.K Γ.mg Γ.base N x (defScope st) f cdv A outer s H E).nox → sp vs H Q E →
      ∃ t, PSs (cxOf CX0 Γ.P Γ.w Γ.K Γ.mg Γ.base N x (defScope st) f cdv A outer s H E).nox (defBody st) t ∧ t { nx := fun _ H' => Q .non H', rt := Q } (L2.start N vs) H) : FnOk Γ.P Γ.w Γ.K Γ.mg Γ.base CX0 (k + 1) f fd ps sp :=
  F.ok S len fun cdv A outer s H vs Q E hr h => hbody f cdv A outer s H vs Q E (Good.of hr).nox h
end G
/-! what the top leaves of the class of tables -/
namespace G
open PySem PySem.Spec PyProof.Rows L2
/-- the i-th default of the def at f, if it is an object -/
def dfA (f : Addr) (i : Nat) (K : PySem.W.Frag) : Addr := match K.lookup f with
  | some ⟨_, _, .func fd, _⟩ => (match fd.defaults with
    | .ref T => (match K.lookup T with
      | some ⟨_, _, .seq its _, _⟩ => (match its.toList[i]? with
        | some (.ref a) => a
        | _ => 0)
      | _ => 0)
    | _ => 0)
  | _ => 0
/-- an empty tuple stands there -/
def emTB (f : PySem.W.Frag → Addr) (K : PySem.W.Frag) : Bool := match K.lookup (f K) with
  | some ⟨.type c, _, .seq its _, _⟩ => decide (c = "tuple") && decide (its.toList = [])
  | _ => false
theorem emT_of {f : PySem.W.Frag → Addr} {K : PySem.W.Frag} (h : emTB f K = true) (H : Hp) : SqT K H (f K) [] := by
  unfold emTB at h
  cases q : K.lookup (f K) with
  | none =>
    rw [q] at h
    cases h
  | some o =>
    obtain ⟨oc, od, dt, osl⟩ := o
    rw [q] at h
    cases oc with
    | type c =>
      cases dt with
      | seq its n =>
        obtain ⟨h1, h2⟩ := He.ba (show (decide (c = "tuple") && decide (its.toList = [])) = true from h)
        have e : its.toList = [] := of_decide_eq_true h2
        refine .inr ⟨_, its, n, q, congrArg Value.type (of_decide_eq_true h1), rfl, ?_, ?_⟩
        · rw [← Array.length_toList, e]; exact Nat.zero_le _
        · rw [e]; exact .nil
      | _ => cases h
    | _ => cases dt <;> cases h
def ktB (K : PySem.W.Frag) : Bool := klsB "Table" K && (okFa (.glo "Table") K && (okFa (.noat "Table" "sorts") K && (okFa (.noat "Table" "nexts") K && (okFa (.noat "Table" "befores") K && (okFa (.noat "Table" "facts") K && (okFa (.noat "Table" "numbers") K && (PySem.W.noSeq K (He.ga K "Table") && (okFa (.meth "Table" "__getitem__") K && PySem.W.fnIn K (He.ma K (He.ga K "Table") "__getitem__")))))))))
theorem kt_of {P : Program} {w : World} {K : PySem.W.Frag} {mg : Str → Option Value} {base h : Heap} {lv : Nat} (X : K.In h) (N : h.Ns mainGlobals mg) (c : ktB K = true) : KT ⟨P, w, K, mg, base, lv⟩ (He.ga K "Table") := by
  obtain ⟨h1, c⟩ := He.ba c
  obtain ⟨h2, c⟩ := He.ba c
  obtain ⟨h3, c⟩ := He.ba c
  obtain ⟨h4, c⟩ := He.ba c
  obtain ⟨h5, c⟩ := He.ba c
  obtain ⟨h6, c⟩ := He.ba c
  obtain ⟨h7, c⟩ := He.ba c
  obtain ⟨h8, c⟩ := He.ba c
  obtain ⟨h9, h10⟩ := He.ba c
  refine ⟨kls_of h1, He.glo_ok X N h2, noat_of h3, noat_of h4, noat_of h5, noat_of h6, noat_of h7, h8, fun f hf => ?_⟩
  have e1 := (meth_of h9).at_
  have e2 := hf.at_
  rw [e1] at e2
  cases e2
  exact h10
end G
/-! facts by Bools: methods taken off, instances that may be called -/
namespace G
open PySem PySem.Spec PyProof.Rows L2 StX
def bmB (x m : Str) (K : PySem.W.Frag) : Bool := okFa (.meth x m) K && (eqB (PySem.W.specialIn K (.ref (He.ma K (He.ga K x) m)) "__get__") (some (some (.builtin "function.__get__"))) && (decide (PySem.W.takesIn K (.ref (He.ma K (He.ga K x) m)) = some false) && (!(PySem.W.copiedNames.contains m) && PySem.W.fnIn K (He.ma K (He.ga K x) m))))
theorem bm_of {x m : Str} {K : PySem.W.Frag} (c : bmB x m K = true) : BMeth K (He.ga K x) m (He.ma K (He.ga K x) m) := by
  obtain ⟨h1, c⟩ := He.ba c
  obtain ⟨h2, c⟩ := He.ba c
  obtain ⟨h3, c⟩ := He.ba c
  obtain ⟨h4, h5⟩ := He.ba c
  exact ⟨meth_of h1, He.eqO_ok h2, of_decide_eq_true h3, by simpa using h4, h5⟩
def calB (x : Str) (K : PySem.W.Frag) : Bool := okFa (.meth x "__call__") K && PySem.W.fnIn K (He.ma K (He.ga K x) "__call__")
theorem cal_of {x : Str} {K : PySem.W.Frag} (c : calB x K = true) : CallC K (He.ga K x) := by
  obtain ⟨h1, h2⟩ := He.ba c
  intro f hf
  have e1 := (meth_of h1).at_
  have e2 := hf.at_
  rw [e1] at e2
  cases e2
  exact h2
/-- the written part: all objects below n (He.asD grows by eraseDups, which is dear) -/
def obsRG (n : Nat) (ex : List (PySem.W.Frag → Bool)) (fn : List DE) (g : Addr → Option Obj) : AlE := obsE ex fn (He.frG g (List.range n))
def hookR (n : Nat) (ex : List (PySem.W.Frag → Bool)) (fn : List DE) : PySem.W.Hook where
  α := AlE
  obs := fun s => obsRG n ex fn s.heap.get?
  val := fun _ => valE fn
  says := fun _ h => ∃ K : PySem.W.Frag, K.In h ∧ SaysE ex fn K
  of := fun _ _ e => ⟨_, He.frG_in, e⟩
  keeps := fun _ _ _ ⟨K, hK, c⟩ k => ⟨K, PySem.W.Frag.In.keeps hK k, c⟩
theorem obsRG_eq {n : Nat} {ex : List (PySem.W.Frag → Bool)} {fn : List DE} {g : Addr → Option Obj} {s : Shared} (h : ∀ a, g a = s.heap.get? a) : obsRG n ex fn g = (hookR n ex fn).obs s := by
  have e : g = s.heap.get? := funext h
  rw [e] <;> rfl
end G
/-! errors of the text's own classes: made, raised, let out of defs, caught -/
namespace G
open PySem PySem.Spec PyProof.Rows L2 StX
/-- what stands behind a def that let an error out -/
abbrev CXN (Γ : Gm) : CXT := L2N.CX Γ.P Γ.w
theorem takes_no {X : Cx} : L2N.Takes X (fun _ _ _ _ => False) := fun u s' ⟨_, _, _, _, _, _, _, _, _, _, _, _, _, _, _, _, w⟩ => w.elim
theorem Good.tr {Γ : Gm} {X : Cx} (g : Good Γ X) {pn : List (Addr × Obj)} {xe : Value → Shared → Prop} : Good Γ (X.tr pn xe) := ⟨g.P, g.w, g.K, g.mg, g.base, g.calm, g.room⟩
/-- a def's context where errors may leave -/
abbrev cxN (Γ : Gm) (N : List Str) (qual : Str) (sc : Scope) (f : Addr) (cdv : Value) (A : Around) (outer : List Env) (s : Shared) (H : Hp) (E : XK) : Cx := cxOf (CXN Γ) Γ.P Γ.w Γ.K Γ.mg Γ.base N qual sc f cdv A outer s H E
/-- what is shown of a body that may let errors out -/
def BodyN (Γ : Gm) (k : Nat) (N : List Str) (qual : Str) (st : Stmt) (sp : Sp) : Prop := ∀ (f : Addr) (cdv : Value) (A : Around) (outer : List Env) (s : Shared) (H : Hp) (vs : List V) (Q : VK) (E : XK),
  Good (Γ.at k) (cxN Γ N qual (defScope st) f cdv A outer s H E) → L2N.Takes (cxN Γ N qual (defScope st) f cdv A outer s H E) (fun c d _ H' => E c d H') → PassesOwn (model Γ.P Γ.w) (cxN Γ N qual (defScope st) f cdv A outer s H E).A (cxN Γ N qual (defScope st) f cdv A outer s H E).env (cxN Γ N qual (defScope st) f cdv A outer s H E).xe → sp vs H Q E →
  ∃ t, PSs (cxN Γ N qual (defScope st) f cdv A outer s H E) (defBody st) t ∧ t { nx := fun _ H' => Q .non H', rt := Q } (L2.start N vs) H
section
variable {Γ : Gm} {x m qual : Str} {C : Addr} {st : Stmt} {ps N : List Str} {k : Nat} {sp : Sp}
theorem fun_okN {f : Addr} {fd : FuncData} (F : L2.Fun Γ.K x qual st f fd) (S : FnScope N ps (defScope st)) (len : ∀ vs H Q E, sp vs H Q E → vs.length = ps.length) (hb : BodyN Γ k N qual st sp) : FnOk Γ.P Γ.w Γ.K Γ.mg Γ.base (CXN Γ) (k + 1) f fd ps sp := by
  obtain ⟨oc, od, kV, doc, pm, an, cdv, ct, osl, rfl, lk, hcd⟩ := F.ex
  exact fn_of lk hcd S len fun A outer s H vs Q E hr h => hb f cdv A outer s H vs Q E (Good.of hr) (L2N.takes_of rfl rfl rfl rfl) (passes_of rfl) h
theorem Dfn.clN (d : Dfn Γ x st ps) (S : FnScope N ps (defScope st)) (len : ∀ vs H Q E, sp vs H Q E → vs.length = ps.length) (hb : BodyN Γ k N x st sp) : Cl Γ (CXN Γ) (k + 1) x sp [] := by
  obtain ⟨f, fd, F, m, b⟩ := d.ex
  exact ⟨f, fd, ps, [], fun_okN F S len hb, m, F.kp, b, .nil⟩
theorem DfM.mtN (d : DfM Γ C m qual st ps) (S : FnScope N ps (defScope st)) (len : ∀ vs H Q E, sp vs H Q E → vs.length = ps.length) (hb : BodyN Γ k N qual st sp) : Mt Γ (CXN Γ) (k + 1) C m sp [] := by
  obtain ⟨f, fd, F, c, h, b⟩ := d.ex
  exact ⟨f, fd, ps, [], fun_okN F S len hb, c, h, b, .nil⟩
end
/-! ### calls of what may raise; W: what is wished of an error here -/
section
variable {Γ : Gm} {X : Cx} {W : L2.WX} {x m : Str} {o e fe : Expr} {es : List Expr} {ta tf : TE} {t : TA} {pos p apos : Pos} {k l : Nat} {sp : Sp} {dvs : List V}
theorem passN (tk : L2N.Takes X W) (σ : L2.St) : PassesAt (L2N.CX X.prog X.w) X σ (fun c d H' => W c d σ H') := fun pins H s e s' I c => tk e s' (L2N.XE.of_call I (fun cls d H' h => h) c)
def tMwX (Γ : Gm) (W : L2.WX) (m : Str) (ta : TE) (t : TA) : TE := fun σ H Q => ta σ H fun x H1 => ∃ (n : Nat) (C a dx : Addr) (fs : List (Str × V)) (sp : Sp) (dvs : List V), Mt Γ (CXN Γ) n C m sp dvs ∧ n ≤ Γ.lv ∧ x = .ref a ∧ H1 a = some (.ins C dx fs) ∧ fs.lookup m = none ∧
  t σ H1 fun vs H2 => sp (x :: (vs ++ dvs)) H2 Q fun c d H' => W c d σ H'
theorem pe_mwX {pl : Sem Bool} (g : Good Γ X) (tk : L2N.Takes X W) (ho : PE X o ta) (ha : PA X (e :: es) t)
    (hst : starEach (e :: es) X.env = (false, eval e X.env) :: starEach es X.env := by rfl) (hpl : (backTo pos (starEach es X.env)).any (·.1) = false := by rfl)
    (ht : eval (.Call (.Attribute o m apos) (e :: es) [] pos) X.env = (do
      let ov ← eval o X.env
      standAt apos.atName
      let (f, first) ← holding [ov] (getMethod ov m pl)
      callWith pos f first (backTo pos (starEach (e :: es) X.env)) (backToKw pos (keywordEach [] X.env))) := by rfl) :
    PE X (.Call (.Attribute o m apos) (e :: es) [] pos) (tMwX Γ W m ta t) := by
  refine ⟨fun pins s σ H Q I h => ?_⟩
  refine PySem.W.methodCall_KW (pl := pl) (thn (ho.run pins s σ H _ I h) fun u s1 ⟨x, H1, I1, rx, n, C, a, dx, fs, sp, dvs, M, hn, ex, ea, l, q⟩ => ?_) ht
  subst ex
  obtain rfl : u = Value.ref a := rx
  obtain ⟨P, w, K, mg, base, lv⟩ := Γ
  obtain ⟨h1, h2, h3, h4, h5, _, hr⟩ := g
  simp only at h1 h2 h3 h4 h5 hr
  subst h1 h2 h3 h4 h5
  obtain ⟨f, fd, ps, ds, F, c, hm, hb, hd⟩ := M.ex
  refine getmeth_ok I1 ea c hm l ?_
  refine PySem.W.callWith_K (first := [.ref a]) (h₀ := X.base) I.ok.mod.kin hm.kp (thn (ha.run pos pins s1 σ H1 _ I1 q) fun us s2 ⟨vs, H2, I2, r, q2⟩ => ⟨I2.kIn, ?_⟩) hst hpl
  exact run_fnSD (E := fun σ c d H' => W c d σ H') (us := .ref a :: us) (vs := .ref a :: vs) F (hr.mono hn) hb hd (passN tk σ) I2 (.cons rfl r) q2
/-- f(e, ..), f an instance -/
def tCallIX (Γ : Gm) (W : L2.WX) (tf : TE) (t : TA) : TE := fun σ H Q => tf σ H fun y H1 => ∃ (n : Nat) (C a : Addr) (sp : Sp), Mt Γ (CXN Γ) n C "__call__" sp [] ∧ CallC Γ.K C ∧ n ≤ Γ.lv ∧ y = .ref a ∧ t σ H1 fun vs H2 => (∃ dx fs, H2 a = some (.ins C dx fs)) ∧ sp (.ref a :: vs) H2 Q fun c d H' => W c d σ H'
theorem codeFnX {pins : List (Addr × Obj)} {σ : L2.St} {H : Hp} {s : Shared} {f : Addr} {fd : FuncData} {ps : List Str} {E : L2.St → XK} {Q : VK} {us ds : List Value} {vs : List V} (F : FnOk X.prog X.w X.K X.mg X.base (L2N.CX X.prog X.w) k f fd ps sp) (hr : Room k X.A) (hb : Binds X.K fd ps ds) (hd : Vals dvs ds)
    (hx : PassesAt (L2N.CX X.prog X.w) X σ (E σ)) (I : Inv X pins σ H s) (r : Vals vs us) (h : sp (vs ++ dvs) H Q (E σ)) :
    codeAny (model X.prog X.w) X.A (.call (.ref f) ⟨us, []⟩) (fun r s' => match r with | .ok (.ret v) => EP X pins σ Q v s' | .ok _ => False | .error e => X.xe e s') s := by
  have r2 : Vals (vs ++ dvs) (us ++ ds) := r.append hd
  have hl : (us ++ ds).length = ps.length := by rw [← r2.length]; exact F.len _ _ _ _ h
  refine codeAny_mono (F.run X.A X.stack s H ⟨us, []⟩ (us ++ ds) (vs ++ dvs) Q (E σ) hr I.env0 (hb s us I.kIn hl) r2 h) fun r s' hq => ?_
  cases r with
  | error e => exact hx pins H s e s' I hq
  | ok fl =>
    cases fl with
    | ret u => exact I.after hq
    | next => exact False.elim hq
    | brk => exact False.elim hq
    | cont => exact False.elim hq
theorem pe_callIX (g : Good Γ X) (tk : L2N.Takes X W) (hf : PE X fe tf) (ha : PA X (e :: es) t)
    (ht : eval (.Call fe (e :: es) [] pos) X.env = (do callWith pos (← eval fe X.env) [] (backTo pos (starEach (e :: es) X.env)) (backToKw pos (keywordEach [] X.env))) := by rfl)
    (he : starEach (e :: es) X.env = (false, eval e X.env) :: starEach es X.env := by rfl) (hpl : (backTo pos (starEach es X.env)).any (·.1) = false := by rfl) : PE X (.Call fe (e :: es) [] pos) (tCallIX Γ W tf t) := by
  refine ⟨fun pins s σ H Q I h => ?_⟩
  refine Call_ (thn (hf.run pins s σ H _ I h) fun u s1 ⟨y, H1, I1, ry, n, C, a, sp, M, cc, hn, ey, q⟩ => ?_) ht
  subst ey
  obtain rfl : u = Value.ref a := ry
  obtain ⟨P, w, K, mg, base, lv⟩ := Γ
  obtain ⟨h1, h2, h3, h4, h5, _, hr⟩ := g
  simp only at h1 h2 h3 h4 h5 hr
  subst h1 h2 h3 h4 h5
  obtain ⟨f, fd, ps, ds, F, c, hm, hbi, hd⟩ := M.ex
  refine callO_with (thn (ha.run pos pins s1 σ H1 _ I1 q) fun us s2 ⟨vs, H2, I2, r, ⟨dx, fs, hi⟩, q2⟩ => ?_) he hpl
  obtain ⟨ox, od, J, hp⟩ := insC_at (X := X) I2 (.inr ⟨dx, fs, hi⟩)
  exact ⟨⟨C, ox, od, J, hp⟩, wpAny_call (PySem.W.kco_code I2.kIn J hp hm.at_ hm.fn (cc f hm) (codeFnX (E := fun σ c d H' => W c d σ H') (us := .ref a :: us) (vs := .ref a :: vs) F (hr.mono hn) hbi hd (passN tk σ) I2 (.cons rfl r) (show sp ((V.ref a :: vs) ++ []) H2 Q _ from by rw [List.append_nil]; exact q2)))⟩
/-- a def of the module -/
def tCallX (sp : Sp) (dvs : List V) (W : L2.WX) (t : TA) : TE := fun σ H Q => t σ H fun vs H1 => sp (vs ++ dvs) H1 Q fun c d H' => W c d σ H'
theorem pclX (c : Cl Γ (CXN Γ) k x sp dvs) (g : Good (Γ.at l) X) (tk : L2N.Takes X W) (hk : k ≤ l) (hg : gvB X.env.scope x = true) (ha : PA X (e :: es) t)
    (he : starEach (e :: es) X.env = (false, eval e X.env) :: starEach es X.env := by rfl) (hpl : (backTo pos (starEach es X.env)).any (·.1) = false := by rfl) :
    PE X (.Call (.Name x p) (e :: es) [] pos) (tCallX sp dvs W t) := by
  obtain ⟨P, w, K, mg, base, lv⟩ := Γ
  obtain ⟨f, fd, ps, ds, F, m, kp, b, d⟩ := c.ex
  obtain ⟨h1, h2, h3, h4, h5, _, hr⟩ := g
  simp only at h1 h2 h3 h4 h5 hr
  subst h1 h2 h3 h4 h5
  exact pe_callSD (E := fun σ c d H' => W c d σ H') (F.mono hk) hr (gv_of hg).1 m kp b d (fun σ => passN tk σ) ha (gv_of hg).2.1 he hpl
end
/-! ### classes of errors -/
/-- the values that __init__ keeps (n of them are given) -/
def fsD (ns : List Str) : List V → List (Str × V) := fun vs => (ns.zip vs).reverse
def spErr (C : Addr) (n : Nat) (fs : List V → List (Str × V)) : Sp := fun vs H Q _ => ∃ (a : Addr) (ws : List V), vs = .ref a :: ws ∧ ws.length = n ∧ H a = some (exo a C none) ∧ ∀ dx, H dx = none → dx ≠ a → Q .non (L2.upd (L2.upd H dx (exd dx (fs ws))) a (exo a C (some dx)))
/-- a class of errors, its name, its own __init__ -/
structure ErrK (Γ : Gm) (k : Nat) (x : Str) (C : Addr) (n : Nat) (fs : List V → List (Str × V)) (ns : List Str) : Prop where
  oex : OexC Γ.K C
  no : ∀ f ∈ ns, PySem.W.findIn Γ.K (.ref C) f = some none
  xf : XfC Γ.K C
  mg : Γ.mg x = some (.ref C)
  small : n ≤ 1000
  ini : ∃ (f : Addr) (fd : FuncData) (ps : List Str), FnOk Γ.P Γ.w Γ.K Γ.mg Γ.base CX0 k f fd ps (spErr C n fs) ∧ PySem.W.findIn Γ.K (.ref C) "__init__" = some (some (.ref f)) ∧ PySem.W.typeIn Γ.K (.ref f) = some (.type "function") ∧ Binds Γ.K fd ps []
def tErr (C : Addr) (n : Nat) (fs : List V → List (Str × V)) (ta : TA) : L2.St → Hp → XK → Prop := fun σ H Q => ta σ H fun vs H1 => vs.length = n ∧ ∀ d, H1 d = none → Q (.ref C) (some d) (L2.upd H1 d (.xd (fs vs)))
theorem del_back {H1 : Hp} {a dx : Addr} {u u1 u2 : HO} (ha : H1 a = none) (hd : dx ≠ a) : L2.upd (L2.del (L2.upd (L2.upd (L2.upd H1 a u) dx u1) a u2) a) dx (.xd []) = L2.upd H1 dx (.xd []) := by
  funext b
  by_cases h1 : b = dx
  · subst h1; rw [upd_same, upd_same]
  · rw [upd_ne h1, upd_ne h1]
    by_cases h2 : b = a
    · subst h2; rw [del_same, ha]
    · rw [del_ne h2, upd_ne h2, upd_ne h1, upd_ne h2]
theorem upd_over {H : Hp} {a : Addr} {u v : HO} : L2.upd (L2.upd H a u) a v = L2.upd H a v := by
  funext b
  by_cases h : b = a
  · subst h; rw [upd_same, upd_same]
  · rw [upd_ne h, upd_ne h, upd_ne h]
theorem upd_upd {H : Hp} {a b : Addr} {u v : HO} (h : a ≠ b) : L2.upd (L2.upd H a u) b v = L2.upd (L2.upd H b v) a u := by
  funext c
  by_cases h1 : c = b
  · subst h1; rw [upd_same, upd_ne (Ne.symm h), upd_same]
  · by_cases h2 : c = a
    · subst h2; rw [upd_ne h1, upd_same, upd_same]
    · rw [upd_ne h1, upd_ne h2, upd_ne h2, upd_ne h1]
section
variable {Γ : Gm} {X : Cx} {W : L2.WX} {x : Str} {C : Addr} {k l n : Nat} {fs : List V → List (Str × V)} {ns : List Str} {e : Expr} {es : List Expr} {ta : TA} {p pos : Pos}
theorem err_make {pins : List (Addr × Obj)} {σ : L2.St} {H1 : Hp} {s1 : Shared} {Q : XK} {us : List Value} {vs : List V} (T : ErrK Γ k x C n fs ns) (g : Good (Γ.at l) X) (hk : k + 1 ≤ l) (I1 : Inv X pins σ H1 s1) (r1 : Vals vs us) (hl : vs.length = n) (q : ∀ d, H1 d = none → Q (.ref C) (some d) (L2.upd H1 d (.xd (fs vs)))) :
    wpAny (model X.prog X.w) X.A (call (.ref C) us) (L2N.MkP X pins σ Q) X.xe s1 := by
  obtain ⟨P, w, K, mg, base, lv⟩ := Γ
  obtain ⟨h1, h2, h3, h4, h5, _, hr⟩ := g
  simp only at h1 h2 h3 h4 h5 hr
  subst h1 h2 h3 h4 h5
  obtain ⟨fI, fd, ps, F1, iC, tI, hb⟩ := T.ini
  have T0 := T.oex
  obtain ⟨nm, qn, N, bs, bm, sn, sub, ab, col, dd, k0, k1, k2, k3, k5, hC, hbm⟩ := T0.cls
  obtain ⟨hp, gs, dr, tk, os⟩ := s1
  obtain ⟨a, ea⟩ : ∃ a : Addr, a = hp.objs.size + 1 := ⟨_, rfl⟩
  have hsz : hp.objs.size ≤ a := by rw [ea]; exact Nat.le_succ _
  have hn : H1 a = none := I1.hok.fresh hsz
  have kk : ∀ b o, hp.get? b = some o → ((hp.push (PySem.W.kdv_tup us)).push (PySem.HandSPX.excO C hp.objs.size)).get? b = some o := fun b o e => Heap.get?_push_of_some _ (Heap.get?_push_of_some _ e)
  have hget : ((hp.push (PySem.W.kdv_tup us)).push (PySem.HandSPX.excO C hp.objs.size)).get? a = some (PySem.HandSPX.excO C hp.objs.size) := by rw [ea]; heap_get
  have I2 : Inv X pins σ (L2.upd H1 a (exo a C none)) ⟨(hp.push (PySem.W.kdv_tup us)).push (PySem.HandSPX.excO C hp.objs.size), gs, dr, tk, os⟩ := I1.laid (t' := tk) (a := a) (o := exo a C none) (h' := (hp.push (PySem.W.kdv_tup us)).push (PySem.HandSPX.excO C hp.objs.size)) kk hsz (exo_ok hget)
  have r2 : Vals (V.ref a :: vs) (Value.ref a :: us) := .cons rfl r1
  -- what is wished behind __init__
  let Q2 : VK := fun v H2 => v = .non ∧ ∃ d, H1 d = none ∧ d ≠ a ∧ H2 = L2.upd (L2.upd (L2.upd H1 a (exo a C none)) d (exd d (fs vs))) a (exo a C (some d))
  have hq : spErr C n fs (V.ref a :: vs) (L2.upd H1 a (exo a C none)) Q2 E0 := ⟨a, vs, rfl, hl, upd_same, fun dx hdx nda => ⟨rfl, dx, by rwa [upd_ne nda] at hdx, nda, rfl⟩⟩
  have hlen : (Value.ref a :: us).length = ps.length := by rw [← r2.length]; exact F1.len _ _ _ _ hq
  have hus : us.length ≤ sizeLine := by
    rw [← Paired.length r1, hl]
    exact Nat.le_trans T.small (by decide)
  have bnd : BindsTo ⟨(hp.push (PySem.W.kdv_tup us)).push (PySem.HandSPX.excO C hp.objs.size), gs, dr, tk, os⟩ fd ⟨Value.ref a :: us, []⟩ (ps.zip (Value.ref a :: us)) := by
    have z := hb ⟨(hp.push (PySem.W.kdv_tup us)).push (PySem.HandSPX.excO C hp.objs.size), gs, dr, tk, os⟩ (Value.ref a :: us) I2.kIn (by rw [List.append_nil]; exact hlen)
    rwa [List.append_nil] at z
  have run := F1.run _ X.stack ⟨(hp.push (PySem.W.kdv_tup us)).push (PySem.HandSPX.excO C hp.objs.size), gs, dr, tk, os⟩ (L2.upd H1 a (exo a C none)) ⟨Value.ref a :: us, []⟩ (Value.ref a :: us) (V.ref a :: vs) Q2 E0 ((hr.mono hk).make C us []) (I2.env0.make C us []) bnd r2 hq
  refine wpAny_call (PySem.HandSPX.call_own F.excBase_ValueError (fun Y => PySem.HandSPX.refsVE_contains Y bm hbm) (I1.kIn _ _ hC) (PySem.W.looks_findIn I1.kIn iC) (fun self => PySem.W.bind_fn I1.kIn self tI) hus (codeAny_mono (by rw [← ea]; exact run) fun r s' hq' => ?_))
  cases r with
  | error er => exact hq'.elim
  | ok fl =>
    cases fl with
    | ret u =>
      obtain ⟨v, H2, os2, bare2, un2, hok2, rv, ev, d, hd1, nda, eH⟩ := hq'
      subst ev
      obtain ⟨h2, g2, d2, t2, os'⟩ := s'
      have ea2 : H2 a = some (exo a C (some d)) := by rw [eH, upd_same]
      have ed2 : H2 d = some (exd d (fs vs)) := by rw [eH, upd_ne nda, upd_same]
      obtain ⟨t0, G, J, kG, ge, hoe, na⟩ := mk_end0 (d2 := d2) (t2 := t2) I1 hsz kk un2 hok2 os2 bare2 ea2 ed2 hd1
      have eF : L2.upd (L2.del H2 a) d (.xd (fs vs)) = L2.upd H1 d (.xd (fs vs)) := by
        funext b
        by_cases h1 : b = d
        · subst h1; rw [upd_same, upd_same]
        · rw [upd_ne h1, upd_ne h1]
          by_cases h2 : b = a
          · subst h2; rw [del_same, hn]
          · rw [del_ne h2, eH, upd_ne h2, upd_ne h1, upd_ne h2]
      rw [eF] at J na
      rw [ea] at *
      exact ⟨rv, ⟨_, _, _, ⟨G, g2, d2, t2, os'⟩, _, .ref C, some d, rfl, J, kG, ge, hoe, ⟨rfl, rfl, fun vs e => by cases e; rfl⟩, rfl, rfl, na, rfl, bare2, raises_own T0.exC T0.tyC, q d hd1⟩⟩
    | next => exact False.elim hq'
    | brk => exact False.elim hq'
    | cont => exact False.elim hq'
theorem pmkN (T : ErrK Γ k x C n fs ns) (g : Good (Γ.at l) X) (hk : k + 1 ≤ l) (hg : gvB X.env.scope x = true) (ha : PA X (e :: es) ta)
    (he : starEach (e :: es) X.env = (false, eval e X.env) :: starEach es X.env := by rfl) (hpl : (backTo pos (starEach es X.env)).any (·.1) = false := by rfl) : L2N.PMk X (.Call (.Name x p) (e :: es) [] pos) (tErr C n fs ta) := by
  intro pins s σ H Q I h
  have hm : X.mg x = some (.ref C) := by rw [g.mg]; exact T.mg
  have kC : PySem.W.keepIn X.K (.ref C) = true := by rw [g.K]; exact T.oex.kC
  refine wpAny_Call_Name_kw (ld_glob I (gv_of hg).1 hm ?_ (gv_of hg).2.1)
  refine PySem.W.callWith_K (h₀ := X.base) I.ok.mod.kin kC (thn (ha.run pos pins s σ H _ I h) fun us s1 ⟨vs, H1, I1, r1, hl, q1⟩ => ⟨I1.kIn, ?_⟩) he hpl
  exact err_make T g hk I1 r1 hl q1
theorem pmkN0 (T : ErrK Γ k x C n fs ns) (g : Good (Γ.at l) X) (hk : k + 1 ≤ l) (hg : gvB X.env.scope x = true) : L2N.PMk X (.Call (.Name x p) [] [] pos) (tErr C n fs tNil) := by
  intro pins s σ H Q I h
  have hm : X.mg x = some (.ref C) := by rw [g.mg]; exact T.mg
  have kC : PySem.W.keepIn X.K (.ref C) = true := by rw [g.K]; exact T.oex.kC
  refine wpAny_Call_Name_kw (ld_glob I (gv_of hg).1 hm ?_ (gv_of hg).2.1)
  exact PySem.W.callWith_K0 I.kIn kC (err_make T g hk I .nil h.1 h.2)
/-- raise X(..) -/
def tRz (t : L2.St → Hp → XK → Prop) (W : L2.WX) : TS := fun _ σ H => t σ H fun cls d H' => W cls d σ H'
theorem ps_rz {er : Expr} {t : L2.St → Hp → XK → Prop} (g : Good Γ X) (tk : L2N.Takes X W) (he : L2N.PMk X er t) : PS X (.Raise (some er) none pos) (tRz t W) := L2N.ps_raise g.calm tk he
end
/-! ### caught -/
def llB (N : List Str) (sc : Scope) (i : Nat) (x : Str) : Bool := decide (N[i]? = some x) && (sc.names.lookup x == some .local)
theorem names_of {Γ : Gm} {X : Cx} {x : Str} {C : Addr} (g : Good Γ X) (hm : Γ.mg x = some (.ref C)) (hg : gvB X.env.scope x = true) : Names X x (.ref C) := ⟨(gv_of hg).1, (gv_of hg).2.1, .inl (by rw [g.mg]; exact hm)⟩
section
variable {Γ : Gm} {X : Cx} {W : L2.WX} {x n f : Str} {C a : Addr} {k m i : Nat} {fs : List V → List (Str × V)} {ns : List Str} {body suite : List Stmt} {b0 : Stmt} {np p1 p2 pos : Pos} {tb : L2.WX → TS} {ts : Addr → Value → Option Addr → TS} {Wout : L2.WX}
def tTryA (K : PySem.W.Frag) (c : Value) (i : Nat) (ts : Addr → Value → Option Addr → TS) (Wout : L2.WX) (tb : L2.WX → TS) : TS := fun D σ H => tb (wAs K c i ts Wout D) D σ H
theorem ps_tryA (g : Good Γ X) (hs : X.stack = X.env :: X.outer) (hf : X.env.frame = some X.env.locals) (nd : X.N.Nodup) (hl : llB X.N X.env.scope i n = true) (hm : Γ.mg x = some (.ref C)) (hg : gvB X.env.scope x = true) (tk : L2N.Takes X Wout)
    (hb : ∀ (W : L2.WX) (pn : List (Addr × Obj)) (xe : Value → Shared → Prop), L2N.Takes (X.tr pn xe) W → PassesOwn (model X.prog X.w) X.A X.env xe → PSs (X.tr pn xe) body (tb W))
    (hsu : ∀ (a : Addr) (oe : Obj) (cls : Value) (d : Option Addr) (pn : List (Addr × Obj)), L2N.Zn cls d oe → (∃ vs, oe.data = .fields vs) → PSs (X.suite a ((a, oe) :: pn)) (b0 :: suite) (ts a cls d)) :
    PS X (.Try body [.ExceptHandler (some (.Name x np)) (some n) (b0 :: suite) p1] [] [] pos) (tTryA Γ.K (.ref C) i ts Wout tb) := by
  unfold llB at hl
  simp only [Bool.and_eq_true, decide_eq_true_eq, beq_iff_eq] at hl
  rw [← g.K]
  exact L2N.ps_try_as hs hf nd hl.1 hl.2 (names_of g hm hg) tk hb hsu
/-- what the class of the error has been asked for -/
theorem wAs_yes {K : PySem.W.Frag} {c cls : Value} {D : Ends} {d : Option Addr} {σ : L2.St} {H : Hp} (e : PySem.W.exmOne K cls c = some true) (h : ∀ a, H a = none → ts a cls d { nx := fun σ' H' => D.nx (σ'.set i none) H', rt := D.rt, bk := fun σ' H' => D.bk (σ'.set i none) H', ct := fun σ' H' => D.ct (σ'.set i none) H' } (σ.set i (some (.ref a))) H) :
    wAs K c i ts Wout D cls d σ H := ⟨true, e, fun _ => h, fun z => by cases z⟩
theorem pe_xfN {oe : Obj} {cls : Value} {d : Option Addr} {pn : List (Addr × Obj)} {e : Expr} {te : TE} (T : ErrK Γ k x C m fs ns) (hK : X.K = Γ.K) (hn : f ∈ ns) (hz : L2N.Zn cls d oe) (hf : ∃ vs, oe.data = .fields vs) (he : PE (X.suite a ((a, oe) :: pn)) e te)
    (hb : attributeBase e f X.env (eval e X.env) = eval e X.env := by rfl) : PE (X.suite a ((a, oe) :: pn)) (.Attribute e f pos) (tXf a cls d C f te) :=
  pe_xf (by rw [hK]; exact T.xf) (by rw [hK]; exact T.no f hn) hz.zc hf he hb
theorem pe_bmS {name : Str} {apos cpos : Pos} {T id : String} {r : V → List V → Hp → VK → Prop} {to : TE} {t : TA} {o e : Expr} {es : List Expr} (hK : X.K = Γ.K) (pa : PlainAttrs T) (slot : Slot T name id) (hty : typeOf (.builtin id) = pure (.type "method_descriptor")) (hm : MtR X id r) (ho : PE X o to) (ha : PA X (e :: es) t)
    (hbase : attributeBase o name X.env (eval o X.env) = eval o X.env := by rfl)
    (hfew : ((backTo cpos (starEach (e :: es) X.env)).all (fun x => !x.1) && (backToKw cpos (keywordEach [] X.env)).all (fun x => x.1.isSome)
      && decide ((e :: es).length + ([] : List Keyword).length + (if ([] : List Keyword).isEmpty then 0 else 1) < 30)) = true := by rfl)
    (hline : (apos.endLine == cpos.line) = true := by rfl) (hs : starEach (e :: es) X.env = (false, eval e X.env) :: starEach es X.env := by rfl) (hplain : (backTo cpos (starEach es X.env)).any (·.1) = false := by rfl) :
    PE X (.Call (.Attribute o name apos) (e :: es) [] cpos) (tBM Γ.K T r to t) := by rw [← hK]; exact pe_bm pa slot hty hm ho ha hbase hfew hline hs hplain
end
/-! ### what the written part says of a class of errors -/
def oexB (C : Addr) (K : PySem.W.Frag) : Bool := (match K.lookup C with
  | some ⟨.type "type", _, .cls cd, sl⟩ => (match cd.mro, sl.toList with
    | .ref C' :: bm, [_, _, _, _, some (.builtin n), _] => C' == C && (n == "ValueError.__new__" && (!cd.hasDel && (cd.hasDict && PySem.HandSPX.refsVE bm)))
    | _, _ => false)
  | _ => false) && (eqB (PySem.W.findIn K (.ref C) "__setattr__") (some (some (.builtin "object.__setattr__"))) && (decide (PySem.W.subIn K (.ref C) (.type "BaseException") = some true) && (decide (PySem.W.typeIn K (.ref C) = some (.type "type")) && PySem.W.keepIn K (.ref C))))
def errB (x : Str) (ns : List Str) (K : PySem.W.Frag) : Bool := oexB (He.ga K x) K && (xfB K (He.ga K x) && (okFa (.glo x) K && ((ns.all fun f => eqB (PySem.W.findIn K (.ref (He.ga K x)) f) (some none)) && (eqB (PySem.W.findIn K (.ref (He.ga K x)) "__init__") (some (some (.ref (He.ma K (He.ga K x) "__init__")))) && decide (PySem.W.typeIn K (.ref (He.ma K (He.ga K x) "__init__")) = some (.type "function"))))))
theorem oex_of {C : Addr} {K : PySem.W.Frag} (h : oexB C K = true) : OexC K C := by
  obtain ⟨c, h⟩ := He.ba h
  obtain ⟨h1, h⟩ := He.ba h
  obtain ⟨h2, h⟩ := He.ba h
  obtain ⟨h3, h4⟩ := He.ba h
  refine ⟨?_, of_decide_eq_true h1, of_decide_eq_true h2, of_decide_eq_true h3, h4⟩
  split at c
  · rename_i dd cd sl ho
    split at c
    · rename_i C' bm k0 k1 k2 k3 n k5 hm hs
      obtain ⟨c1, c⟩ := He.ba c
      obtain ⟨c2, c⟩ := He.ba c
      obtain ⟨c3, c⟩ := He.ba c
      obtain ⟨c4, c5⟩ := He.ba c
      obtain ⟨l⟩ := sl
      obtain ⟨nm, bs, mro, ns, qn, hd, sn, sub, ab, col, del⟩ := cd
      simp only at hm hs c3 c4
      obtain rfl : C' = C := beq_iff_eq.mp c1
      obtain rfl : n = "ValueError.__new__" := beq_iff_eq.mp c2
      subst hm hs c4
      obtain rfl : del = false := by simpa using c3
      exact ⟨nm, qn, ns, bs, bm, sn, sub, ab, col, dd, k0, k1, k2, k3, k5, ho, c5⟩
    · cases c
  · cases c
theorem err_of {P : Program} {w : World} {K : PySem.W.Frag} {mg : Str → Option Value} {base h : Heap} {lv k n : Nat} {x : Str} {fs : List V → List (Str × V)} {ns : List Str} {fd : FuncData} {ps : List Str} (X : K.In h) (N : h.Ns mainGlobals mg) (c : errB x ns K = true) (hn : n ≤ 1000)
    (F : OexC K (He.ga K x) → (∀ f ∈ ns, PySem.W.findIn K (.ref (He.ga K x)) f = some none) → FnOk P w K mg base CX0 k (He.ma K (He.ga K x) "__init__") fd ps (spErr (He.ga K x) n fs)) (b : Binds K fd ps []) : ErrK ⟨P, w, K, mg, base, lv⟩ k x (He.ga K x) n fs ns := by
  obtain ⟨h1, c⟩ := He.ba c
  obtain ⟨h2, c⟩ := He.ba c
  obtain ⟨h3, c⟩ := He.ba c
  obtain ⟨h4, c⟩ := He.ba c
  obtain ⟨h5, h6⟩ := He.ba c
  exact ⟨oex_of h1, fun f hf => of_decide_eq_true (List.all_eq_true.mp h4 f hf), xfB_ok h2, He.glo_ok X N h3, hn, _, fd, ps, F (oex_of h1) fun f hf => of_decide_eq_true (List.all_eq_true.mp h4 f hf), of_decide_eq_true h5, of_decide_eq_true h6, b⟩
/-- __init__ of a class of errors with one, two, three values; with none -/
theorem st_err1 {K : PySem.W.Frag} {C a : Addr} {f : Str} {v : V} {D : Ends} {σ : L2.St} {H : Hp} {to te : TE} (T : OexC K C) (hn : PySem.W.findIn K (.ref C) f = some none) (he : ∀ Q : VK, Q v H → te σ H Q) (ho : ∀ Q : VK, Q (.ref a) H → to σ H Q) (h : H a = some (exo a C none)) (q : ∀ dx, H dx = none → dx ≠ a → D.nx σ (L2.upd (L2.upd H dx (exd dx [(f, v)])) a (exo a C (some dx)))) : tOst K f to te D σ H :=
  he _ (ho _ ⟨a, C, rfl, T, hn, .inl ⟨h, q⟩⟩)
theorem st_err2 {K : PySem.W.Frag} {C a dx : Addr} {f : Str} {v : V} {D : Ends} {σ : L2.St} {H : Hp} {to te : TE} {fs : List (Str × V)} (T : OexC K C) (hn : PySem.W.findIn K (.ref C) f = some none) (hl : fs.length ≤ 900) (hd : dx ≠ a)
    (he : ∀ (H' : Hp) (Q : VK), Q v H' → te σ H' Q) (ho : ∀ (H' : Hp) (Q : VK), Q (.ref a) H' → to σ H' Q) (q : D.nx σ (L2.upd (L2.upd H dx (exd dx ((f, v) :: fs))) a (exo a C (some dx)))) : tOst K f to te D σ (L2.upd (L2.upd H dx (exd dx fs)) a (exo a C (some dx))) := by
  refine he _ _ (ho _ _ ⟨a, C, rfl, T, hn, .inr ⟨dx, fs, upd_same, by rw [upd_ne hd, upd_same], hl, ?_⟩⟩)
  rw [upd_upd (Ne.symm hd), upd_over]
  exact q
theorem fun_any {Γ : Gm} {x q : Str} {st : Stmt} {ps N : List Str} {k : Nat} {sp : Sp} {f : Addr} {fd : FuncData} (F : L2.Fun Γ.K x q st f fd) (S : FnScope N ps (defScope st)) (len : ∀ vs H Q E, sp vs H Q E → vs.length = ps.length)
    (hb : ∀ (f : Addr) (cdv : Value) (A : Around) (outer : List Env) (s : Shared) (H : Hp) (vs : List V) (Q : VK) (E : XK), Good (Γ.at k) (cxOf CX0 Γ.P Γ.w Γ.K Γ.mg Γ.base N q (defScope st) f cdv A outer s H E).nox → sp vs H Q E →
      ∃ t, PSs (cxOf CX0 Γ.P Γ.w Γ.K Γ.mg Γ.base N q (defScope st) f cdv A outer s H E).nox (defBody st) t ∧ t { nx := fun _ H' => Q .non H', rt := Q } (L2.start N vs) H) : FnOk Γ.P Γ.w Γ.K Γ.mg Γ.base CX0 (k + 1) f fd ps sp :=
  F.ok S len fun cdv A outer s H vs Q E hr h => hb f cdv A outer s H vs Q E (Good.of hr).nox h
end G
/-! data compared: == and != of any data -/
namespace G
open PySem PySem.Spec PyProof.Rows L2 StX
section
variable {Γ : Gm} {H : Hp} {Q : VK} {x y : V} {d e : PyData}
theorem wo_eqD (hx : Dp Γ.K H x d) (hy : Dp Γ.K H y e) (s1 : SeqAt.shaped d = true) (s2 : SeqAt.shaped e = true) (k : Q (.bl (PyData.eqv d e)) H) : WO Γ (compareOp .Eq) x y H Q :=
  ⟨rEqD Γ.K, fun X g => (by have := op_eqD (X := X) (Nat.lt_of_le_of_lt (Nat.le_refl _) g.hu64); rw [g.K] at this; exact this), _, _, hx, hy, s1, s2, k⟩
theorem wo_neD (hx : Dp Γ.K H x d) (hy : Dp Γ.K H y e) (s1 : SeqAt.shaped d = true) (s2 : SeqAt.shaped e = true) (k : Q (.bl (!PyData.eqv d e)) H) : WO Γ (compareOp .NotEq) x y H Q :=
  ⟨rNeD Γ.K, fun X g => (by have := op_neD (X := X) (Nat.lt_of_le_of_lt (Nat.le_refl _) g.hu64); rw [g.K] at this; exact this), _, _, hx, hy, s1, s2, k⟩
theorem eqv_self (s : SeqAt.shaped d = true) : PyData.eqv d d = true := SeqAt.eqv_refl d (SeqAt.canLay_of_shaped s)
theorem wo_eqS1 (hx : Dp Γ.K H x d) (hy : Dp Γ.K H y d) (s : SeqAt.shaped d = true) (k : Q (.bl true) H) : WO Γ (compareOp .Eq) x y H Q := wo_eqD hx hy s s (by rw [eqv_self s]; exact k)
theorem wo_neS1 (hx : Dp Γ.K H x d) (hy : Dp Γ.K H y d) (s : SeqAt.shaped d = true) (k : Q (.bl false) H) : WO Γ (compareOp .NotEq) x y H Q := wo_neD hx hy s s (by rw [eqv_self s]; exact k)
end
theorem shaped_of {d : PyData} (h1 : d.canLay0 = true) (h2 : d.depth ≤ 64) : SeqAt.shaped d = true := by unfold SeqAt.shaped; rw [h1, decide_eq_true h2]; rfl
theorem canAll {ds : List PyData} (h : ∀ d ∈ ds, d.canLay0 = true) : PyData.canLayAll0 ds = true := by
  induction ds with
  | nil => rfl
  | cons d ds ih => simp only [PyData.canLayAll0, h d (.head _), ih fun e he => h e (.tail _ he), Bool.and_self]
theorem depAll {ds : List PyData} {n : Nat} (h : ∀ d ∈ ds, d.depth ≤ n) : PyData.depthAll ds ≤ n := by
  induction ds with
  | nil => simp only [PyData.depthAll]; omega
  | cons d ds ih =>
    have h1 := h d (.head _)
    have h2 := ih fun e he => h e (.tail _ he)
    simp only [PyData.depthAll]
    omega
theorem shaped_tup {ds : List PyData} (h : ∀ d ∈ ds, SeqAt.shaped d = true ∧ d.depth ≤ 63) : SeqAt.shaped (.tuple ds) = true := by
  refine shaped_of ?_ ?_
  · simp only [PyData.canLay0]
    exact canAll fun d hd => SeqAt.canLay_of_shaped (h d hd).1
  · simp only [PyData.depth]
    have := depAll fun d hd => (h d hd).2
    omega
theorem dep_tup {ds : List PyData} {n : Nat} (h : ∀ d ∈ ds, d.depth ≤ n) : (PyData.tuple ds).depth ≤ n + 1 := by
  simp only [PyData.depth]
  have := depAll h
  omega
end G
/-! lists unpacked; an own class called with keywords; isinstance of a caught error with own values -/
namespace G
open PySem PySem.Spec PyProof.Rows L2
/-- a tuple or a list -/
def SqE (K : PySem.W.Frag) (H : Hp) (p : Addr) (xs : List V) : Prop := SqT K H p xs ∨ SqL K H p xs
/-- (a, b, ..) = a tuple or a list of that length -/
def gSq (K : PySem.W.Frag) (n : Nat) (t : TGs) : TG := fun v σ H Q => ∃ a xs, v = .ref a ∧ SqE K H a xs ∧ xs.length = n ∧ t xs σ H Q
section
variable {Γ : Gm} {X : Cx} {pos : Pos}
theorem pg_sK {es : List Expr} {k : Nat} {t : TGs} (g : Good Γ X) (n : Nat) (hc : X.calm = true) (h : PGs X es t) (hn : (assignEach es X.env).length = n := by rfl) (hst : (assignEach es X.env).findIdx? (·.1) = none := by rfl) : PG X (.Tuple es k pos) (gSq Γ.K n t) := by
  rw [← g.K]
  refine ⟨fun pins s σ H v u Q I r hw => ?_⟩
  obtain ⟨a, xs, e1, hq, hl, hw⟩ := hw
  rcases hq with hq | hq
  · exact (pg_tup hc h hn hst).run pins s σ H v u Q I r ⟨a, xs, e1, hq, hl, hw⟩
  · exact (pg_unl hc h hn hst).run pins s σ H v u Q I r ⟨a, xs, e1, hq, hl, hw⟩
end
theorem gs_of {K : PySem.W.Frag} {n : Nat} {t : TGs} {T : Addr} {xs : List V} {σ : L2.St} {H : Hp} {Q : L2.St → Hp → Prop} (m : SqE K H T xs) (hn : xs.length = n) (h : t xs σ H Q) : gSq K n t (.ref T) σ H Q := ⟨T, xs, rfl, m, hn, h⟩
/-! ### C(e, k = v) -/
structure Mkrk (Γ : Gm) (CX : CXT) (k : Nat) (x : Str) (C : Addr) (sp : Sp) (n : Nat) (ks : List Str) (gV : List V → List V → List V) : Prop where
  ex : ∃ (f : Addr) (fd : FuncData) (ps : List Str) (g : List Value → List Value → List Value), FnOk Γ.P Γ.w Γ.K Γ.mg Γ.base CX k f fd ps sp ∧ Mk Γ.K C f ∧ Γ.mg x = some (.ref C) ∧ KBn Γ.K fd ps (n + 1) ks g gV
section
variable {Γ : Gm} {X : Cx} {CX : CXT} {k l n : Nat} {C : Addr} {x : Str} {sp : Sp} {ks : List Str} {E : XK} {p pos : Pos} {e : Expr} {es : List Expr} {kws : List Keyword} {t tk : TA} {gV : List V → List V → List V}
theorem pmkk (M : Mkrk Γ CX k x C sp n ks gV) (g : Good (Γ.at l) X) (hn : k + 1 ≤ l) (hg : gvB X.env.scope x = true) (hx : Passes CX X E)
    (ha : PA X (e :: es) t) (hkw : PK X kws tk) (hall : (backToKw pos (keywordEach kws X.env)).all (·.1.isSome) = true := by rfl) (hks : (backToKw pos (keywordEach kws X.env)).filterMap (·.1) = ks := by rfl)
    (he : starEach (e :: es) X.env = (false, eval e X.env) :: starEach es X.env := by rfl)
    (hpl : ((backTo pos (starEach (e :: es) X.env)).any (·.1) || (backToKw pos (keywordEach kws X.env)).any (·.1.isNone)) = false := by rfl) :
    PE X (.Call (.Name x p) (e :: es) kws pos) (tMakeN C n ks.length sp gV E t tk) := by
  obtain ⟨P, w, K, mg, base, lv⟩ := Γ
  obtain ⟨h1, h2, h3, h4, h5, _, hr⟩ := g
  simp only at h1 h2 h3 h4 h5 hr
  subst h1 h2 h3 h4 h5
  obtain ⟨f, fd, ps, g, F, mk, hm, hb⟩ := M.ex
  exact pe_makeN mk F (hr.mono hn) (gv_of hg).1 hm hb hx ha hkw hall hks (gv_of hg).2.1 he hpl
end
/-! ### isinstance(e, c) in the suite -/
def rIsN (K : PySem.W.Frag) (cls : Value) (d : Option Addr) (a : Addr) : List V → Hp → VK → Prop := fun xs H Q => ∃ (D dd : Addr) (fs : List (Str × V)) (c : V) (cv : Value) (b : Bool), xs = [.ref a, c] ∧ cls = .ref D ∧ d = some dd ∧ H dd = some (.xd fs) ∧ ExcC K D ∧ ClsV c cv ∧ PySem.W.kitOne K (.ref D) cv = some b ∧ Q (.bl b) H
theorem call_isN {X : Cx} {K : PySem.W.Frag} {a : Addr} {cls : Value} {d : Option Addr} {oe : Obj} {pn : List (Addr × Obj)} (hK : X.K = K) (hz : L2N.Zn cls d oe) (hf : ∃ vs, oe.data = .fields vs) : CallR (X.suite a ((a, oe) :: pn)) (.builtin "isinstance") (rIsN K cls d a) := by
  subst hK
  intro pins s σ H xs us Q I r h
  obtain ⟨D, dd, fs, c, cv, b, rfl, rfl, rfl, ea, C, hcv, e, q⟩ := h
  cases r with
  | cons rx rr =>
    cases rr with
    | cons rt rr =>
      cases rr
      cases rx
      obtain ⟨ha, _⟩ := I.pin (a, oe) (List.mem_append.mpr (.inl List.mem_cons_self))
      obtain ⟨vs, hd⟩ := hf
      obtain ⟨mA, hns, hr⟩ := (I.hok dd _ ea : ObjOk X.prog X.w H s.heap dd (.xd fs))
      obtain ⟨od, ho, hl⟩ := lookIn_ns hns
      have J : PySem.W.InstAt s.heap a oe D (some od) := ⟨ha, hz.1, by unfold PySem.W.notCls; rw [hd] <;> rfl, by rw [hz.2.1]; exact ho⟩
      obtain ⟨cd, hc, _⟩ := PySem.W.any_some C.hd
      have ec := hcv.eq rt
      subst ec
      exact PySem.W.kia_one (PySem.W.kitx_exc (by rw [hc]; rfl) C.hg C.hk C.hs C.ha C.hn C.ht C.hm) I.kIn J e (fun z => nomatch z) fun tk => ⟨.bl b, H, I.kept (t' := tk) fun _ _ z => z, rfl, q⟩
/-- what the written part says of a class of errors that isinstance asks -/
def excB (D : Addr) (K : PySem.W.Frag) : Bool := decide (PySem.W.findIn K (.ref D) "__getattribute__" = some (some (.builtin "BaseException.__getattribute__"))) && (decide (PySem.W.findIn K (.ref D) "__getattr__" = some none) && (decide (PySem.W.subIn K (.ref D) (.type "BaseException") = some true) && (PySem.W.hasDictIn K D && (decide (PySem.W.findIn K (.ref D) "__class__" = some (some (.builtin "object.__class__"))) && (decide (PySem.W.specialIn K (.builtin "object.__class__") "__get__" = some (some (.builtin "getset_descriptor.__get__"))) && (decide (PySem.W.takesIn K (.builtin "object.__class__") = some true) && decide (PySem.W.mroIn K D (.type "object") = some true)))))))
theorem excB_ok {K : PySem.W.Frag} {D : Addr} (c : excB D K = true) : ExcC K D := by
  obtain ⟨h1, c⟩ := He.ba c
  obtain ⟨h2, c⟩ := He.ba c
  obtain ⟨h3, c⟩ := He.ba c
  obtain ⟨h4, c⟩ := He.ba c
  obtain ⟨h5, c⟩ := He.ba c
  obtain ⟨h6, c⟩ := He.ba c
  obtain ⟨h7, h8⟩ := He.ba c
  exact ⟨of_decide_eq_true h1, of_decide_eq_true h2, of_decide_eq_true h3, h4, of_decide_eq_true h5, of_decide_eq_true h6, of_decide_eq_true h7, of_decide_eq_true h8⟩
theorem bt_ValueError : bootBuiltins "ValueError" = some (.type "ValueError") := by with_unfolding_all rfl
theorem pe_andS {Γ : Gm} {X : Cx} {a b : Expr} {pos : Pos} {ta tb : TE} {rest : List Expr} (hK : X.K = Γ.K) (ha : PE X a ta) (hb : PE X (.BoolOp .And (b :: rest) pos) tb) : PE X (.BoolOp .And (a :: b :: rest) pos) (tAndB2 Γ ta tb) := by
  have e : tAndB2 Γ ta tb = tAndT X.K ta tb := by
    rw [hK]
    funext σ H Q
    unfold tAndB2 tAndT
    congr 1; funext x H'
    rw [tru_eq]
    congr 1; funext k
    rw [br_eq]
  rw [e]; exact pe_andT ha hb
def excBx (x : Str) (K : PySem.W.Frag) : Bool := excB (He.ga K x) K
def kiB (x y : Str) (K : PySem.W.Frag) : Bool := decide (PySem.W.kitOne K (.ref (He.ga K x)) (.ref (He.ga K y)) = some true)
def kiTB (x : Str) (t : String) (K : PySem.W.Frag) : Bool := decide (PySem.W.kitOne K (.ref (He.ga K x)) (.type t) = some true)
end G

local macro_rules | `(tactic| walk_at "mem") => `(tactic| first | with_reducible exact List.mem_cons_self | with_reducible exact List.Mem.head _ | (apply List.Mem.tail; walk_at "mem") | assumption)
local macro_rules | `(tactic| walk_at "pick") => `(tactic| first | exact G.Pick.here | (apply G.Pick.next; walk_at "pick") | assumption)
local macro_rules | `(tactic| walk_at "subl") => `(tactic| first | exact List.Sublist.slnil | exact List.Sublist.refl _ | (apply List.Sublist.cons_cons; walk_at "subl") | (apply List.Sublist.cons; walk_at "subl"))
local macro_rules | `(tactic| walk_at "mems") => `(tactic| first | exact G.sub_nil | (refine G.sub_cons ?_ ?_; (focus walk_at "mem"); walk_at "mems"))
local macro_rules | `(tactic| walk_at "cell") => `(tactic| first | assumption | exact L2.upd_same)
local macro_rules | `(tactic| walk_at "sq") => `(tactic| first | assumption | exact L2.SqL.of (by walk_at "cell") | exact L2.SqL.of (G.SS.cell (by assumption) (by walk_at "mem")) | exact G.SS.seq (by assumption) (by walk_at "mem"))
local macro_rules | `(tactic| walk_at "dn") => `(tactic| try dsimp only [L2.tSeq, G.tMw, G.tMwX, G.tCallIX, G.tCallX, G.tErr, G.tRz, G.tTryA, L2.tXf, L2.tMake, L2.sFld, L2.tDrop, StX.tStar, G.tMk, L2.tAug, L2.tNever, L2.tCallN, L2.tAsg, L2.tOp, L2.tUn, L2.tC, L2.tCB, L2.tCons, L2.tNil, L2.tRet, L2.tRetN, L2.gName, L2.gSub, L2.tNext, L2.tDrop, L2.tCall, L2.tTup, L2.tLst, L2.tNot, L2.tBM, L2.tBM0, L2.tM1,
  L2.tSl, L2.tNoPart, L2.iRng1, L2.iRng2, L2.iList, L2.iTup, L2.iStr, L2.iEnum, C8.tCut, G.tFor_eq, G.tLc_eq,  L2.tBreak, L2.tCont, L2.tYes, G.tS, G.tT, G.tCh, G.tIfB, G.tIfSB, G.tAndB, G.tOrB, G.tTr, G.tOrB2, G.tAndB2, G.tNotB, G.tP2, G.tP3, G.tPt,
  G.oAdd_1, G.oAdd_2, G.oSub_1, G.oMul_1, G.oDiv_1, G.oMod_1, G.oPow_1, G.oLt_1, G.oLe_1, G.oGt_1, G.oGe_1, G.oEq_1, G.oEq_2, G.oEq_3, G.oEq_4, G.oEq_5, G.oEq_6, G.oEq_7, G.oEq_8, G.oEq_9, G.oEq_10, G.oNe_1, G.oNe_2, G.oNe_3, G.oNe_4, G.oNe_5, G.oNe_6, G.oNe_7, G.oNe_8, G.oNe_9, G.oNe_10, G.oIs_1, G.oIsNot_1, G.uNeg_1, G.cInt_1, G.cInt_2, G.cAbs_1, G.cMin_1, G.cMax_1, G.cLen_1, G.sl_0, G.sl_s, G.gN_1, G.gC_1, G.asB_1, G.asI_1, G.br_1, G.br_2, G.two_1, G.three_1, G.tru_1, G.tru_2, G.tru_3, G.tru_4, G.isN_1, G.isN_2, G.isN_3, G.isN_4, G.isN_5, L2.wipe, List.map_cons, List.map_nil, G.nb_1, G.nb_2, List.set_cons_zero, List.set_cons_succ, List.append_nil, List.nil_append, List.cons_append])
local macro_rules | `(tactic| walk_at "di") => `(tactic| try dsimp only [G.oAdd_1, G.oAdd_2, G.oSub_1, G.oMul_1, G.oDiv_1, G.oMod_1, G.oPow_1, G.oLt_1, G.oLe_1, G.oGt_1, G.oGe_1, G.oEq_1, G.oEq_2, G.oEq_3, G.oEq_4, G.oEq_5, G.oEq_6, G.oEq_7, G.oEq_8, G.oEq_9, G.oEq_10, G.oNe_1, G.oNe_2, G.oNe_3, G.oNe_4, G.oNe_5, G.oNe_6, G.oNe_7, G.oNe_8, G.oNe_9, G.oNe_10, G.oIs_1, G.oIsNot_1, G.uNeg_1, G.cInt_1, G.cInt_2, G.cAbs_1, G.cMin_1, G.cMax_1, G.cLen_1, G.sl_0, G.sl_s, G.gN_1, G.gC_1, G.asB_1, G.asI_1, G.br_1, G.br_2, G.two_1, G.three_1, G.tru_1, G.tru_2, G.tru_3, G.tru_4, G.isN_1, G.isN_2, G.isN_3, G.isN_4, G.isN_5, L2.wipe, List.map_cons, List.map_nil, G.nb_1, G.nb_2, List.set_cons_zero, List.set_cons_succ, List.append_nil, List.nil_append, List.cons_append])
local macro_rules | `(tactic| walk_at "h1") => `(tactic| first
  | with_reducible refine G.wx_l (by walk_at "sq") (by with_unfolding_all exact rfl) ?_
  | with_reducible refine G.wp_l (by walk_at "cell") (by with_unfolding_all exact rfl) ?_
  | ((with_reducible refine And.intro ?_ ?_); focus (first | assumption | omega | exact ⟨by omega, by omega⟩ | exact Or.inl ⟨by omega, by omega⟩ | exact Or.inr ⟨by omega, by omega⟩ | decide | exact G.szl (by simp only [List.length_cons, List.length_nil]; omega))))
local macro_rules | `(tactic| walk_at "go") => `(tactic| (walk_at "di"; repeat (walk_at "h1"; walk_at "di")))
local macro_rules | `(tactic| walk_at "dd") => `(tactic| (try dsimp only [L2.tDGet1, L2.tDPop1, G.tMkS, L2.tDrop, L2.tLstRg, L2.tRg1, L2.tRevL, G.tS, L2.tOp, L2.tUn, L2.tCons, L2.tNil]); walk_at "di")
local macro_rules | `(tactic| walk_at "dc") => `(tactic| ((try dsimp only [G.tCallI]); walk_at "dn"))
namespace K
open PySem PySem.Spec PyProof.Rows L2 G
def spTake : Sp := fun vs H Q _ => ∃ (b : Addr) (m : Int) (n : Nat), vs = [.ref b, .int m] ∧ 0 < m ∧ m < 2 ^ 30 ∧ Box b (n + 1) H ∧ ∀ (r : Int) H', 0 ≤ r → r < m → Fr [b] H H' → Box b n H' → Q (.int r) H'
def spBox (K : PySem.W.Frag) : Sp := fun vs H Q _ => ∃ (l : Addr) (ns : List Int) (k : Nat), vs = [.ref l, .int k] ∧ SqL K H l (ns.map V.int) ∧ k < ns.length ∧ k ≤ 100 ∧ ∀ p H', H p = none → Same H H' → Box p (2 ^ 39) H' → Q (.ref p) H'
def spCells (K : PySem.W.Frag) : Sp := fun vs H Q _ => ∃ (l : Addr) (ns : List Int) (m : Nat), vs = [.ref l, .int m] ∧ SqL K H l (ns.map V.int) ∧ ns.length ≤ 63 ∧ 1 ≤ m ∧ m ≤ 3 ∧
  ∀ p H' (ks : List Int), H p = none → Same H H' → H' p = some (.lst (ks.map V.int)) → 1 ≤ ks.length → ks.length ≤ m → Q (.ref p) H'
/-- an item of a list or a tuple, a sign of a text -/
def spOf (K : PySem.W.Frag) : Sp := fun vs H Q _ => ∃ (b : Addr) (g : V) (n : Nat), vs = [.ref b, g] ∧ Box b (n + 1) H ∧
  ((∃ (l : Addr) (xs : List V), g = .ref l ∧ l ≠ b ∧ SqL K H l xs ∧ 0 < xs.length ∧ xs.length < 1000000 ∧ ∀ v ∈ xs, ∀ H', Fr [b] H H' → Box b n H' → Q v H') ∨
   (∃ (z : Str), g = .str z ∧ 0 < z.length ∧ z.length < 1000000 ∧ ∀ c ∈ z.cps.toList, ∀ H', Fr [b] H H' → Box b n H' → Q (.str ⟨#[c]⟩) H'))
/-- some of the goods, each once -/
def spPick (K : PySem.W.Frag) : Sp := fun vs H Q _ => ∃ (b : Addr) (g : V) (gs : List V) (n m : Nat), vs = [.ref b, g, .int m] ∧ Box b (n + m) H ∧ gs.length < 100000 ∧
  ((∃ l, g = .ref l ∧ SqL K H l gs) ∨ ∃ z, g = .str z ∧ gs = sgs z) ∧
  ∀ p xs H', H p = none → Fr [b] H H' → Box b n H' → H' p = some (.lst xs) → (∃ r, (xs ++ r).Perm gs) → xs.length = min m gs.length → Q (.ref p) H'
abbrev E0v (K : PySem.W.Frag) : Hv := ⟨K, fun _ => False⟩
/-- a NAME -/
def Nm (z : Str) : Prop := 1 ≤ z.length ∧ z.length ≤ 8 ∧ ∀ c ∈ z.cps.toList, 97 ≤ c ∧ c ≤ 122
theorem Nm.ok {z : Str} (h : Nm z) : PyData.strOk z = true := by
  unfold PyData.strOk
  rw [← Array.all_toList, List.all_eq_true]
  intro c hc
  have := (h.2.2 c hc).2
  exact decide_eq_true (by omega)
def LETS : Str := "abcdefghijklmnopqrstuvwxyz"
/-- names, unlike one another -/
def spNms (K : PySem.W.Frag) : Sp := fun vs H Q _ => ∃ (b : Addr) (n m : Nat), vs = [.ref b, .int m] ∧ Box b (n + 500) H ∧ m ≤ 26 ∧
  ∀ p (zs : List Str) H', H p = none → Fr [b] H H' → Box b n H' → H' p = some (.lst (zs.map V.str)) → zs.length = m → zs.Nodup → (∀ z ∈ zs, Nm z) → Q (.ref p) H'
def topS (i : Nat) : Stmt := PySem.Challenge.pw_linelooks_k02_tables_made_again.main.body.getD i (.Pass ⟨0, 0, 0, 0⟩)
structure Names (Γ : Gm) : Prop where
  n_ValueError : Γ.mg "ValueError" = none
  n_abs : Γ.mg "abs" = none
  n_all : Γ.mg "all" = none
  n_any : Γ.mg "any" = none
  n_bool : Γ.mg "bool" = none
  n_chr : Γ.mg "chr" = none
  n_dict : Γ.mg "dict" = none
  n_enumerate : Γ.mg "enumerate" = none
  n_int : Γ.mg "int" = none
  n_isinstance : Γ.mg "isinstance" = none
  n_len : Γ.mg "len" = none
  n_list : Γ.mg "list" = none
  n_max : Γ.mg "max" = none
  n_min : Γ.mg "min" = none
  n_ord : Γ.mg "ord" = none
  n_range : Γ.mg "range" = none
  n_reversed : Γ.mg "reversed" = none
  n_set : Γ.mg "set" = none
  n_sorted : Γ.mg "sorted" = none
  n_str : Γ.mg "str" = none
  n_sum : Γ.mg "sum" = none
  n_tuple : Γ.mg "tuple" = none
  n_zip : Γ.mg "zip" = none
abbrev s_E_Unlike : Stmt := inClass (topS 10) 0
abbrev n_E_Unlike : List Str := ["self"]
theorem sc_E_Unlike : FnScope n_E_Unlike ["self"] (defScope s_E_Unlike) := ⟨rfl, rfl, rfl, by decide +kernel, rfl, by decide +kernel, by decide +kernel⟩
theorem nm_E_Unlike : nvB n_E_Unlike (defScope s_E_Unlike) 0 "self" = true := by decide +kernel
theorem cl_E_Unlike {Γ : Gm} {C f : Addr} {fd : FuncData} (dfn : L2.Fun Γ.K "__init__" "Unlike.__init__" s_E_Unlike f fd) (T : Names Γ) (O : OexC Γ.K C) (O2 : ∀ f ∈ (["shown"] : List Str), PySem.W.findIn Γ.K (.ref C) f = some none) : FnOk Γ.P Γ.w Γ.K Γ.mg Γ.base CX0 (1) f fd ["self"] (spErr C 0 ((fun _ => [("shown", .bl false)]))) := by
  refine fun_any dfn sc_E_Unlike (fun vs H Q E h => ?_) (fun f cdv A outer s H vs Q E hg h => ?_)
  · obtain ⟨a, ws, rfl, hl, _⟩ := h
    rw [List.length_cons, hl]; rfl
  obtain ⟨a, ws, rfl, hl, ha, q⟩ := h
  obtain rfl : ws = [] := List.eq_nil_of_length_eq_zero hl
  have nd := sc_E_Unlike.nd
  obtain v0 := nm_E_Unlike
  refine ⟨_, (pss_one (ps_ost (ps 0 v0) pe_bl)), ?_⟩
  refine st_start (σ := [some _]) rfl ?_
  walk_at "dn"
  refine st_err1 O (O2 _ (by walk_at "mem")) (fun Q q => q) (fun Q q => q) ha fun dx hdx nd => ?_
  exact q dx hdx nd
abbrev s_take : Stmt := topS 22
abbrev n_take : List Str := ["_law_box_here", "_law_below", "_law_some", "_law_once", "_law_far", "_law_again"]
theorem sc_take : FnScope n_take ["_law_box_here", "_law_below"] (defScope s_take) := ⟨rfl, rfl, rfl, by decide +kernel, rfl, by decide +kernel, by decide +kernel⟩
theorem nm_take : nvB n_take (defScope s_take) 0 "_law_box_here" = true ∧ nvB n_take (defScope s_take) 1 "_law_below" = true ∧ nvB n_take (defScope s_take) 2 "_law_some" = true ∧ nvB n_take (defScope s_take) 3 "_law_once" = true ∧ nvB n_take (defScope s_take) 4 "_law_far" = true ∧ nvB n_take (defScope s_take) 5 "_law_again" = true ∧ lvB n_take (defScope s_take) 2 "_law_some" = true ∧ lvB n_take (defScope s_take) 3 "_law_once" = true ∧ lvB n_take (defScope s_take) 4 "_law_far" = true ∧ lvB n_take (defScope s_take) 5 "_law_again" = true ∧ gvB (defScope s_take) "int" = true := by decide +kernel
theorem cl_take {Γ : Gm} (dfn : Dfn Γ "_law_take" s_take ["_law_box_here", "_law_below"]) (T : Names Γ) : Cl Γ CX0 (1) "_law_take" spTake [] := by
  refine dfn.cl sc_take (fun vs H Q E h => ?_) (fun f cdv A outer s H vs Q E hg h => ?_)
  · obtain ⟨b, m, n, rfl, _⟩ := h
    rfl
  obtain ⟨b, m, n, rfl, hm, hm2, ⟨i, j, k, hb, j0, j1, k0, k1⟩, q⟩ := h
  have nd := sc_take.nd
  obtain ⟨v0, v1, v2, v3, v4, v5, l2, l3, l4, l5, g_int⟩ := nm_take
  refine ⟨_, (pss_cons (ps_ifB (pt_cm (k_gt hg) (pe_ix (WX.ok hg) (ps 0 v0) pe_int (fun _ _ => rfl)) pe_int (nomark _))
    (pss_cons (pst (i := 2) nd l2 (pe_op (k_mod hg) (pct (k_int hg) g_int T.n_int bt_int (pa_cons (pe_ix (WX.ok hg) (ps 0 v0) pe_int (fun _ _ => rfl)) pa_nil)) (ps 1 v1)))
    (pss_cons (ps_asg (pe_op (k_div hg) (pe_ix (WX.ok hg) (ps 0 v0) pe_int (fun _ _ => rfl)) (ps 1 v1)) (pg_sub (ps 0 v0) pe_int (WP.ok hg)))
    (pss_one (ps_ret (ps 2 v2)))))
    pss_nil)
    (pss_cons (ps_asg (pe_op (k_add hg) (pe_ix (WX.ok hg) (ps 0 v0) pe_int (fun _ _ => rfl)) pe_int) (pg_sub (ps 0 v0) pe_int (WP.ok hg)))
    (pss_cons (pst (i := 3) nd l3 (pe_op (k_mod hg) (pct (k_int hg) g_int T.n_int bt_int (pa_cons (pe_op (k_mul hg) (pe_op (k_add hg) (pe_ix (WX.ok hg) (ps 0 v0) pe_int (fun _ _ => rfl)) (pe_op (k_mul hg) pe_int (pe_ix (WX.ok hg) (ps 0 v0) pe_int (fun _ _ => rfl)))) (pe_op (k_add hg) pe_int (pe_ix (WX.ok hg) (ps 0 v0) pe_int (fun _ _ => rfl)))) pa_nil)) pe_int))
    (pss_cons (pst (i := 4) nd l4 (pe_op (k_add hg) (pe_op (k_mod hg) (pct (k_int hg) g_int T.n_int bt_int (pa_cons (ps 3 v3) pa_nil)) pe_int) pe_int))
    (pss_cons (pst (i := 5) nd l5 (pe_op (k_mod hg) (pct (k_int hg) g_int T.n_int bt_int (pa_cons (pe_op (k_mul hg) (pe_op (k_add hg) (pe_op (k_add hg) (ps 3 v3) (pe_ix (WX.ok hg) (ps 0 v0) pe_int (fun _ _ => rfl))) (pe_op (k_div hg) (pe_ix (WX.ok hg) (ps 0 v0) pe_int (fun _ _ => rfl)) pe_int)) (ps 4 v4)) pa_nil)) pe_int))
    (pss_one (ps_ret (pe_op (k_mod hg) (pct (k_int hg) g_int T.n_int bt_int (pa_cons (pe_op (k_div hg) (pe_op (k_mod hg) (pct (k_int hg) g_int T.n_int bt_int (pa_cons (pe_op (k_add hg) (pe_op (k_mul hg) (ps 5 v5) pe_int) (ps 3 v3)) pa_nil)) pe_int) pe_int) pa_nil)) (ps 1 v1))))))))), ?_⟩
  refine st_start (σ := [some _, some _, none, none, none, none]) rfl ?_
  walk_at "dn"
  walk_at "go"
  refine br_d (fun h => ?_) (fun h => ?_)
  · walk_at "go"
    exact q _ _ (Int.emod_nonneg _ (by omega)) (Int.emod_lt_of_pos _ hm) (Fr.upd (.head _)) ⟨_, j, k, upd_same, j0, j1, k0, by omega⟩
  · walk_at "go"
    exact q _ _ (Int.emod_nonneg _ (by omega)) (Int.emod_lt_of_pos _ hm) (Fr.upd (.head _)) ⟨_, j, _, upd_same, j0, j1, by omega, by omega⟩
abbrev s_box : Stmt := topS 21
abbrev n_box : List Str := ["_law_script", "_law_k", "_law_cell"]
theorem sc_box : FnScope n_box ["_law_script", "_law_k"] (defScope s_box) := ⟨rfl, rfl, rfl, by decide +kernel, rfl, by decide +kernel, by decide +kernel⟩
theorem nm_box : nvB n_box (defScope s_box) 0 "_law_script" = true ∧ nvB n_box (defScope s_box) 1 "_law_k" = true ∧ nvB n_box (defScope s_box) 2 "_law_cell" = true ∧ lvB n_box (defScope s_box) 2 "_law_cell" = true ∧ gvB (defScope s_box) "abs" = true ∧ gvB (defScope s_box) "int" = true ∧ gvB (defScope s_box) "len" = true := by decide +kernel
theorem cl_box {Γ : Gm} (dfn : Dfn Γ "_law_box" s_box ["_law_script", "_law_k"]) (T : Names Γ) : Cl Γ CX0 (1) "_law_box" (spBox Γ.K) [] := by
  refine dfn.cl sc_box (fun vs H Q E h => ?_) (fun f cdv A outer s H vs Q E hg h => ?_)
  · obtain ⟨b, m, n, rfl, _⟩ := h
    rfl
  obtain ⟨l, ns, k, rfl, hl, hk, hk2, q⟩ := h
  have nd := sc_box.nd
  obtain ⟨v0, v1, v2, l2, g_abs, g_int, g_len⟩ := nm_box
  refine ⟨_, (pss_cons (pst (i := 2) nd l2 (pe_ifB (pt_cm (k_lt hg) (ps 1 v1) (pcb (k_len hg) g_len T.n_len bt_len (pa_cons (ps 0 v0) pa_nil)) (nomark _)) (pe_ix (WX.ok hg) (ps 0 v0) (ps 1 v1) (fun _ _ => rfl)) pe_int))
    (pss_one (ps_ret (pe_lst (pa_cons (pe_op (k_mul hg) (pcb (k_abs hg) g_abs T.n_abs bt_abs (pa_cons (ps 2 v2) pa_nil)) (pct (k_int hg) g_int T.n_int bt_int (pa_cons (pe_cmpR (k_ge hg) (pcb (k_abs hg) g_abs T.n_abs bt_abs (pa_cons (ps 2 v2) pa_nil)) (pe_op (k_pow hg) pe_int pe_int) (nomark _)) pa_nil))) (pa_cons (pe_op (k_add hg) (pe_op (k_add hg) (pe_op (k_mod hg) (pct (k_int hg) g_int T.n_int bt_int (pa_cons (ps 2 v2) pa_nil)) pe_int) (pe_op (k_mul hg) pe_int (ps 1 v1))) pe_int) (pa_cons pe_int pa_nil))))))), ?_⟩
  refine st_start (σ := [some _, some _, none]) rfl ?_
  walk_at "dn"
  refine wc_len_l hl ?_
  walk_at "di"
  refine br_d (fun h => ?_) (fun h => ?_)
  · obtain ⟨v, hv⟩ : ∃ v, ns[k]? = some v := ⟨_, List.getElem?_eq_getElem hk⟩
    refine wx_l hl (v := .int v) (atI_nat (by rw [List.getElem?_map, hv]; rfl)) ?_
    walk_at "go"
    exact fun p hp => q p _ hp (Same.mk hp) ⟨_, _, _, upd_same, by omega, by omega, by omega, by omega⟩
  · exfalso
    rw [List.length_map] at h
    omega
abbrev s_of : Stmt := topS 24
abbrev n_of : List Str := ["_law_box_here", "_law_goods_so"]
theorem sc_of : FnScope n_of ["_law_box_here", "_law_goods_so"] (defScope s_of) := ⟨rfl, rfl, rfl, by decide +kernel, rfl, by decide +kernel, by decide +kernel⟩
theorem nm_of : nvB n_of (defScope s_of) 0 "_law_box_here" = true ∧ nvB n_of (defScope s_of) 1 "_law_goods_so" = true ∧ gvB (defScope s_of) "_law_take" = true ∧ gvB (defScope s_of) "len" = true := by decide +kernel
theorem cl_of {Γ : Gm} (dfn : Dfn Γ "_law_of" s_of ["_law_box_here", "_law_goods_so"]) (T : Names Γ) (c_law_take : Cl Γ CX0 1 "_law_take" spTake []) : Cl Γ CX0 (2) "_law_of" (spOf Γ.K) [] := by
  refine dfn.cl sc_of (fun vs H Q E h => ?_) (fun f cdv A outer s H vs Q E hg h => ?_)
  · obtain ⟨b, m, n, rfl, _⟩ := h
    rfl
  obtain ⟨b, g, n, rfl, hb, h⟩ := h
  have nd := sc_of.nd
  obtain ⟨v0, v1, g__law_take, g_len⟩ := nm_of
  refine ⟨_, (pss_one (ps_ret (pe_ix (WX.ok hg) (ps 1 v1) (pcl c_law_take hg (by omega) g__law_take pass0 (pa_cons (ps 0 v0) (pa_cons (pcb (k_len hg) g_len T.n_len bt_len (pa_cons (ps 1 v1) pa_nil)) pa_nil))) (fun _ _ => rfl)))), ?_⟩
  refine st_start (σ := [some _, some _]) rfl ?_
  walk_at "dn"
  rcases h with ⟨l, xs, rfl, hne, hl, h0, h1, q⟩ | ⟨z, rfl, h0, h1, q⟩
  · refine wc_len_l hl ?_
    walk_at "di"
    refine ⟨b, _, n, rfl, by omega, by omega, hb, fun r H' r0 r1 fr hb' => ?_⟩
    have hr' : r.toNat < xs.length := by omega
    refine wx_l (fr.sql hl (by simpa using hne)) (v := xs[r.toNat]) (atG (z := r) (j := r.toNat) (by omega) (List.getElem?_eq_getElem hr')) ?_
    exact q _ (List.getElem_mem hr') _ fr hb'
  · walk_at "di"
    refine ⟨by rw [sizeLine_eq]; omega, b, _, n, rfl, by omega, by omega, hb, fun r H' r0 r1 fr hb' => ?_⟩
    have hr' : r.toNat < z.cps.toList.length := by rw [Array.length_toList]; show r.toNat < z.length; omega
    refine wx_s (by rw [sizeLine_eq]; omega) (c := z.cps.toList[r.toNat]) (atG (z := r) (j := r.toNat) (by omega) (List.getElem?_eq_getElem hr')) ?_
    exact q _ (List.getElem_mem hr') _ fr hb'
abbrev s_cells : Stmt := topS 23
abbrev n_cells : List Str := ["_law_script", "_law_most", "_law_slots_so", "_law_k", "_law_cell", "_law_at_so"]
theorem sc_cells : FnScope n_cells ["_law_script", "_law_most"] (defScope s_cells) := ⟨rfl, rfl, rfl, by decide +kernel, rfl, by decide +kernel, by decide +kernel⟩
theorem nm_cells : nvB n_cells (defScope s_cells) 0 "_law_script" = true ∧ nvB n_cells (defScope s_cells) 1 "_law_most" = true ∧ nvB n_cells (defScope s_cells) 2 "_law_slots_so" = true ∧ nvB n_cells (defScope s_cells) 3 "_law_k" = true ∧ nvB n_cells (defScope s_cells) 4 "_law_cell" = true ∧ nvB n_cells (defScope s_cells) 5 "_law_at_so" = true ∧ lvB n_cells (defScope s_cells) 2 "_law_slots_so" = true ∧ lvB n_cells (defScope s_cells) 3 "_law_k" = true ∧ lvB n_cells (defScope s_cells) 4 "_law_cell" = true ∧ lvB n_cells (defScope s_cells) 5 "_law_at_so" = true ∧ gvB (defScope s_cells) "enumerate" = true ∧ gvB (defScope s_cells) "int" = true ∧ gvB (defScope s_cells) "list" = true := by decide +kernel
theorem cl_cells {Γ : Gm} (dfn : Dfn Γ "_law_cells" s_cells ["_law_script", "_law_most"]) (T : Names Γ) : Cl Γ CX0 (1) "_law_cells" (spCells Γ.K) [] := by
  refine dfn.cl sc_cells (fun vs H Q E h => ?_) (fun f cdv A outer s H vs Q E hg h => ?_)
  · obtain ⟨b, m, n, rfl, _⟩ := h
    rfl
  obtain ⟨l, ns, m, rfl, hl, hn, m1, m3, q⟩ := h
  have nd := sc_cells.nd
  obtain ⟨v0, v1, v2, v3, v4, v5, l2, l3, l4, l5, g_enumerate, g_int, g_list⟩ := nm_cells
  refine ⟨_, (C8.pss_cut (pst (i := 2) nd l2 (pe_or2 hg (pct (WC.ok hg) g_list T.n_list bt_list (pa_cons (pe_slice (WL.ok hg) (ps 0 v0) po_none (po_pt (ps 1 v1))) pa_nil)) (pe_one (pe_lst (pa_cons pe_int pa_nil)))))
    (pss_cons (ps_for PassesOwn.never rfl (pi_en hg g_enumerate T.n_enumerate (pa_cons (pe_slice (WL.ok hg) (ps 0 v0) (po_pt (ps 1 v1)) (po_pt pe_int)) pa_nil)) (pg_tK hg 2 rfl (pgs_c (pgn (i := 3) nd l3) (pgs_c (pgn (i := 4) nd l4) pgs_0)))
    (pss_cons (pst (i := 5) nd l5 (pe_op (k_mod hg) (pct (k_int hg) g_int T.n_int bt_int (pa_cons (ps 3 v3) pa_nil)) (ps 1 v1)))
    (pss_one (ps_asg (pe_op (k_add hg) (pe_ix (WX.ok hg) (ps 2 v2) (ps 5 v5) (fun _ _ => rfl)) (pe_op (k_mul hg) (ps 4 v4) (pe_op (k_add hg) (ps 3 v3) pe_int))) (pg_sub (ps 2 v2) (ps 5 v5) (WP.ok hg))))))
    (pss_one (ps_ret (ps 2 v2))))), ?_⟩
  refine st_start (σ := [some _, some _, none, none, none, none]) rfl ?_
  walk_at "dn"
  refine ⟨fun σ' H' => ∃ (p : Addr) (ks : List Int), σ' = [some (.ref l), some (.int m), some (.ref p), none, none, none] ∧ H p = none ∧ Same H H' ∧ H' p = some (.lst (ks.map V.int)) ∧ 1 ≤ ks.length ∧ ks.length ≤ m ∧ (m < ns.length → ks.length = m), ?_, ?_⟩
  · refine wl_l hl fun p hp => ?_
    rw [cut_to, ← List.map_take]
    refine wc_list (.inl (SqL.of upd_same)) fun p2 hp2 => ?_
    have s2 : Same H (upd (upd H p (.lst ((ns.take m).map V.int))) p2 (.lst ((ns.take m).map V.int))) := (Same.mk hp).trans (Same.mk hp2)
    have h2 : H p2 = none := (Same.mk hp).free hp2
    refine ⟨_, .inl ⟨_, SqL.of upd_same, rfl⟩, br_b (fun e => ?_) (fun e => ⟨szl (by simp only [List.length_cons, List.length_nil]; omega), fun p3 hp3 => ?_⟩)⟩
    · refine ⟨p2, _, rfl, h2, s2, upd_same, ?_, by rw [List.length_take]; omega, fun z => by rw [List.length_take]; omega⟩
      cases q : ns.take m with
      | nil => rw [q] at e; cases e
      | cons _ _ => rw [List.length_cons]; omega
    · refine ⟨p3, [0], rfl, s2.free hp3, s2.trans (Same.mk hp3), upd_same, Nat.le_refl _, m1, fun z => ?_⟩
      exfalso
      cases q : ns.take m with
      | nil => have := congrArg List.length q; rw [List.length_take] at this; simp only [List.length_nil] at this; omega
      | cons _ _ => rw [q] at e; cases e
  · rintro σ' H1 ⟨p, ks, rfl, hp, s1, h1, k1, km, kn⟩
    walk_at "di"
    refine wl_l (Same.seq s1 hl) fun p3 hp3 => ?_
    have hws : ∀ v ∈ cutV (ns.map V.int) (some (m : Int)) (some (63 : Int)), ∃ z : Int, v = .int z := by
      intro v hv
      obtain ⟨z, _, rfl⟩ := List.mem_map.mp (List.mem_of_mem_drop (List.mem_of_mem_take hv))
      exact ⟨z, rfl⟩
    have hmn : cutV (ns.map V.int) (some (m : Int)) (some (63 : Int)) ≠ [] → m < ns.length := by
      intro h
      by_cases z : m < ns.length
      · exact z
      · refine absurd ?_ h
        unfold cutV
        rw [HT.sIx_nat, Nat.min_eq_right (by rw [List.length_map]; omega), List.drop_length, List.take_nil]
    have hsz : (cutV (ns.map V.int) (some (m : Int)) (some (63 : Int))).length ≤ 63 := Nat.le_trans (cutV_length _ _ _) (by rw [List.length_map]; exact hn)
    generalize cutV (ns.map V.int) (some (m : Int)) (some (63 : Int)) = ws at hws hmn hsz
    have s0 : SS (E := ⟨Γ.K, fun _ => True⟩) H [] (upd H1 p3 (.lst ws)) [] [lstR p3 ws, lstR p (ks.map V.int)] := (SS.of1 hp s1 h1 (fun z => z)).newC hp3 (fun z => z)
    refine ⟨p3, ws, rfl, SqL.of upd_same, ?_⟩
    refine lp_it walk_enum (fun i σ H' => ∃ (ks' : List Int) (F : List (PF ⟨Γ.K, fun _ => True⟩)) (a b c : Option V), σ = [some (V.ref l), some (V.int m), some (V.ref p), a, b, c] ∧ SS (E := ⟨Γ.K, fun _ => True⟩) H [] H' F [lstR p3 ws, lstR p (ks'.map V.int)] ∧ ks'.length = ks.length)
      ⟨ks, [], none, none, none, rfl, s0, rfl⟩ (fun i σ H' _ ⟨_, _, _, _, _, _, s, _⟩ => SqL.of (s.cell (.head _))) ?_ ?_
    · rintro i x σ H2 H' hi ⟨ks', F, a, b, c, rfl, s, hk⟩ ⟨T, x1, y, rfl, hT, rfl, e1, e2⟩
      cases e1
      obtain ⟨z, rfl⟩ := hws y (List.mem_of_getElem? e2)
      have hkm : ks'.length = m := by rw [hk]; exact kn (hmn fun z => by rw [z] at hi; cases hi)
      have s2 := s.newT (xs := [V.int i, V.int z]) hT
      refine gt_of (s2.tup (.head _)) rfl ?_
      walk_at "dn"
      refine ⟨by omega, ?_⟩
      have hm : ((i : Int) % m).toNat < ks'.length := by have := Int.emod_lt_of_pos (i : Int) (b := m) (by omega); omega
      obtain ⟨u, hu⟩ : ∃ u, ks'[((i : Int) % m).toNat]? = some u := ⟨_, List.getElem?_eq_getElem hm⟩
      have hix : (i : Int) % m = (((i : Int) % m).toNat : Nat) := by have := Int.emod_nonneg (i : Int) (b := m) (by omega); omega
      refine wx_l (SqL.of (s2.cell (.tail _ (.head _)))) (v := .int u) (atG (j := ((i : Int) % m).toNat) hix (by rw [List.getElem?_map, hu]; rfl)) ?_
      walk_at "di"
      refine ⟨.inr ⟨by omega, by omega⟩, wp_ss s2 (.next .here) (j := ((i : Int) % m).toNat) ?_ fun H3 s3 => ⟨ks'.set ((i : Int) % m).toNat (u + z * (i + 2)), F, _, _, _, rfl, ?_, ?_⟩⟩
      · have hxx := ixN_n (n := (ks'.map V.int).length) (j := ((i : Int) % m).toNat) (by rw [List.length_map]; exact hm)
        rw [← hix] at hxx
        exact hxx
      · rw [List.map_set]; exact s3.sub fun x hx => .tail _ hx
      · rw [List.length_set]; exact hk
    · rintro σ H2 ⟨ks', F, a, b, c, rfl, s, hk⟩
      exact q p H2 ks' hp s.fr.same (s.cell (.tail _ (.head _))) (by omega) (by omega)
abbrev s_pick : Stmt := topS 25
abbrev n_pick : List Str := ["_law_box_here", "_law_goods_so", "_law_count_so", "_law_rest", "_law_found", "_law_turn"]
theorem sc_pick : FnScope n_pick ["_law_box_here", "_law_goods_so", "_law_count_so"] (defScope s_pick) := ⟨rfl, rfl, rfl, by decide +kernel, rfl, by decide +kernel, by decide +kernel⟩
theorem nm_pick : nvB n_pick (defScope s_pick) 0 "_law_box_here" = true ∧ nvB n_pick (defScope s_pick) 1 "_law_goods_so" = true ∧ nvB n_pick (defScope s_pick) 2 "_law_count_so" = true ∧ nvB n_pick (defScope s_pick) 3 "_law_rest" = true ∧ nvB n_pick (defScope s_pick) 4 "_law_found" = true ∧ lvB n_pick (defScope s_pick) 5 "_law_turn" = true ∧ gvB (defScope s_pick) "_law_take" = true ∧ gvB (defScope s_pick) "int" = true ∧ gvB (defScope s_pick) "len" = true ∧ gvB (defScope s_pick) "list" = true ∧ gvB (defScope s_pick) "min" = true ∧ gvB (defScope s_pick) "range" = true := by decide +kernel
theorem cl_pick {Γ : Gm} (dfn : Dfn Γ "_law_pick" s_pick ["_law_box_here", "_law_goods_so", "_law_count_so"]) (T : Names Γ) (c_law_take : Cl Γ CX0 1 "_law_take" spTake []) : Cl Γ CX0 (2) "_law_pick" (spPick Γ.K) [] := by
  refine dfn.cl sc_pick (fun vs H Q E h => ?_) (fun f cdv A outer s H vs Q E hg h => ?_)
  · obtain ⟨b, g, gs, n, m, rfl, _⟩ := h
    rfl
  obtain ⟨b, g, gs, n, m, rfl, hb, hl, hgd, q⟩ := h
  have hm40 : m < 2 ^ 41 := by obtain ⟨_, _, _, _, _, _, h1, h2⟩ := hb; omega
  have nd := sc_pick.nd
  obtain ⟨v0, v1, v2, v3, v4, l5, g__law_take, g_int, g_len, g_list, g_min, g_range⟩ := nm_pick
  refine ⟨_, (pss_cons (ps_p2 (i := 3) (j := 4) rfl nd rfl rfl (by decide) rfl rfl (pa_cons (pct (WC.ok hg) g_list T.n_list bt_list (pa_cons (ps 1 v1) pa_nil)) (pa_cons (pe_lst pa_nil) pa_nil)) (by rfl))
    (pss_cons (ps_for PassesOwn.never rfl (pi_r1 g_range T.n_range (pa_cons (pcb (k_min hg) g_min T.n_min bt_min (pa_cons (pct (k_int hg) g_int T.n_int bt_int (pa_cons (ps 2 v2) pa_nil)) (pa_cons (pcb (k_len hg) g_len T.n_len bt_len (pa_cons (ps 3 v3) pa_nil)) pa_nil))) pa_nil)) (pgn (i := 5) nd l5)
    (pss_one (ps_expr (pe_bmK hg PySem.F.plainAttrs_list PySem.F.slot_list_append PySem.F.type_list_append mt_append (ps 4 v4) (pa_cons (pe_bmK hg PySem.F.plainAttrs_list PySem.F.slot_list_pop PySem.F.type_list_pop mt_popAt (ps 3 v3) (pa_cons (pcl c_law_take hg (by omega) g__law_take pass0 (pa_cons (ps 0 v0) (pa_cons (pcb (k_len hg) g_len T.n_len bt_len (pa_cons (ps 3 v3) pa_nil)) pa_nil))) pa_nil)) pa_nil)))))
    (pss_one (ps_ret (ps 4 v4))))), ?_⟩
  refine st_start (σ := [some _, some _, some _, none, none, none]) rfl ?_
  walk_at "dn"
  have first : ∀ (R : VK), (∀ p, H p = none → R (.ref p) (upd H p (.lst gs))) → WC (Γ.at 1) (Value.type "list") [g] H R := by
    intro R k
    rcases hgd with ⟨l, rfl, h⟩ | ⟨z, rfl, rfl⟩
    · exact wc_list (.inl h) k
    · exact wc_listS (Nat.le_of_lt (lt_size (by unfold sgs at hl; rw [List.length_map] at hl; exact Nat.lt_of_le_of_lt (Nat.le_of_eq Array.length_toList.symm) hl))) k
  refine first _ fun p1 hp1 => ⟨szl (by simp only [List.length_nil]; omega), fun p2 hp2 => ?_⟩
  refine wc_len_l (SqL.of ((Same.mk hp2) _ _ upd_same)) ?_
  walk_at "di"
  refine ⟨_, rfl, by split <;> omega, by split <;> omega, ?_⟩
  rw [show (if (gs.length : Int) < m then (gs.length : Int) else m).toNat = min m gs.length from by split <;> omega]
  have s0 : SS (E := E0v Γ.K) H [b] (upd (upd H p1 (.lst gs)) p2 (.lst [])) [] [lstR p2 [], lstR p1 gs, boxR b (n + m)] := ((SS.box1 (E := E0v Γ.K) hb).newC (o := .lst gs) hp1 (fun z => z)).newC hp2 (fun z => z)
  refine lp_range (fun i σ H' => ∃ (xs rs : List V) (a : Option V), σ = [some (.ref b), some g, some (.int m), some (.ref p1), some (.ref p2), a] ∧ SS (E := E0v Γ.K) H [b] H' [] [lstR p2 xs, lstR p1 rs, boxR b (n + (m - i))] ∧ (xs ++ rs).Perm gs ∧ xs.length = i) ⟨[], gs, none, rfl, s0, .refl _, rfl⟩ ?_ ?_
  · rintro i σ H1 hi ⟨xs, rs, a, rfl, s, hperm, hlen⟩
    walk_at "dn"
    have hrl : xs.length + rs.length = gs.length := by rw [← List.length_append]; exact hperm.length_eq
    have hbx := s.box (.tail _ (.tail _ (.head _)))
    rw [show n + (m - i) = n + (m - (i + 1)) + 1 from by omega] at hbx
    refine ⟨ty_l (SqL.of (s.cell (.head _))), ty_l (SqL.of (s.cell (.tail _ (.head _)))), wc_len_l (SqL.of (s.cell (.tail _ (.head _)))) ⟨b, _, n + (m - (i + 1)), rfl, by omega, by omega, hbx, fun r H2 r0 r1 fr hb2 => ?_⟩⟩
    have s2 := s.draw (.next (.next .here)) fr hb2
    obtain ⟨y, hy⟩ : ∃ y, rs[r.toNat]? = some y := ⟨_, List.getElem?_eq_getElem (by omega)⟩
    refine pop_ss s2 (.next .here) (j := r.toNat) (by omega) hy (by omega) fun H3 s3 => ap_ss s3 .here (lt_size (by omega)) fun H4 s4 => ?_
    refine ⟨xs ++ [y], rs.eraseIdx r.toNat, _, rfl, s4, ?_, by rw [List.length_append, hlen]; rfl⟩
    refine List.Perm.trans ?_ hperm
    rw [List.append_assoc]
    exact (erase_perm rs r.toNat y hy).append_left xs
  · rintro σ H1 ⟨xs, rs, a, rfl, s, hperm, hlen⟩
    exact q p2 xs H1 ((Same.mk hp1).free hp2) s.fr ((s.box (.tail _ (.tail _ (.head _)))).less (by omega)) (s.cell (.head _)) ⟨rs, hperm⟩ hlen
abbrev s_names : Stmt := topS 27
abbrev n_names : List Str := ["_law_box_here", "_law_many", "_law_letters_so", "_law_long", "_law_base", "_law_kind", "_law_place", "_law_found", "_law_sign", "_law_turn"]
theorem sc_names : FnScope n_names ["_law_box_here", "_law_many"] (defScope s_names) := ⟨rfl, rfl, rfl, by decide +kernel, rfl, by decide +kernel, by decide +kernel⟩
theorem nm_names : nvB n_names (defScope s_names) 0 "_law_box_here" = true ∧ nvB n_names (defScope s_names) 1 "_law_many" = true ∧ nvB n_names (defScope s_names) 2 "_law_letters_so" = true ∧ nvB n_names (defScope s_names) 3 "_law_long" = true ∧ nvB n_names (defScope s_names) 4 "_law_base" = true ∧ nvB n_names (defScope s_names) 5 "_law_kind" = true ∧ nvB n_names (defScope s_names) 6 "_law_place" = true ∧ nvB n_names (defScope s_names) 7 "_law_found" = true ∧ nvB n_names (defScope s_names) 8 "_law_sign" = true ∧ lvB n_names (defScope s_names) 2 "_law_letters_so" = true ∧ lvB n_names (defScope s_names) 3 "_law_long" = true ∧ lvB n_names (defScope s_names) 8 "_law_sign" = true ∧ gvB (defScope s_names) "_law_pick" = true ∧ gvB (defScope s_names) "_law_take" = true ∧ gvB (defScope s_names) "range" = true := by decide +kernel
theorem cl_names {Γ : Gm} (dfn : Dfn Γ "_law_names" s_names ["_law_box_here", "_law_many"]) (T : Names Γ) (c_law_take : Cl Γ CX0 1 "_law_take" spTake []) (c_law_of : Cl Γ CX0 2 "_law_of" (spOf Γ.K) []) (c_law_pick : Cl Γ CX0 2 "_law_pick" (spPick Γ.K) []) : Cl Γ CX0 (4) "_law_names" (spNms Γ.K) [] := by
  refine dfn.cl sc_names (fun vs H Q E h => ?_) (fun f cdv A outer s H vs Q E hg h => ?_)
  · obtain ⟨b, n, m, rfl, _⟩ := h
    rfl
  obtain ⟨b, n, m, rfl, hb, hm, q⟩ := h
  have nd := sc_names.nd
  obtain ⟨v0, v1, v2, v3, v4, v5, v6, v7, v8, l2, l3, l8, g__law_pick, g__law_take, g_range⟩ := nm_names
  refine ⟨_, (pss_cons (pst (i := 2) nd l2 pe_str)
    (pss_cons (pst (i := 3) nd l3 (pe_op (k_add hg) pe_int (pcl c_law_take hg (by omega) g__law_take pass0 (pa_cons (ps 0 v0) (pa_cons pe_int pa_nil)))))
    (C8.pss_cut (ps_setLc (i := 4) (own := [("_law_turn", 9)]) rfl nd rfl rfl (sw_true rfl rfl rfl (by decide +kernel)) (pi_r1 g_range T.n_range (pa_cons (ps 3 v3) pa_nil)) (blkOk_by (N := n_names) (sc := defScope s_names) (by decide +kernel)) (fun _ _ _ _ _ => (pg_name (i := 9) nd rfl (by first | exact .inl rfl | exact .inr rfl))) (fun _ _ _ _ _ => pts_nil) (fun _ _ _ _ _ => (pcl c_law_of hg.blk (by omega) (by rfl) pass0 (pa_cons (psr 0) (pa_cons (psr 2) pa_nil)))))
    (pss_cons (ps_p3 (i := 5) (j := 6) (l := 7) rfl nd rfl rfl rfl (by decide) (by decide) (by decide) rfl rfl rfl (pa_cons (pcl c_law_take hg (by omega) g__law_take pass0 (pa_cons (ps 0 v0) (pa_cons pe_int pa_nil))) (pa_cons (pcl c_law_take hg (by omega) g__law_take pass0 (pa_cons (ps 0 v0) (pa_cons (ps 3 v3) pa_nil))) (pa_cons (pe_lst pa_nil) pa_nil))) (by rfl))
    (pss_cons (ps_for PassesOwn.never rfl (pi_l hg (pcl c_law_pick hg (by omega) g__law_pick pass0 (pa_cons (ps 0 v0) (pa_cons (ps 2 v2) (pa_cons (ps 1 v1) pa_nil))))) (pgn (i := 8) nd l8)
    (pss_one (ps_ifB (pt_cm (k_eq hg) (ps 5 v5) pe_int (nomark _))
    (pss_one (ps_expr (pe_bmK hg PySem.F.plainAttrs_list PySem.F.slot_list_append PySem.F.type_list_append mt_append (ps 7 v7) (pa_cons (ps 8 v8) pa_nil))))
    (pss_one (ps_ifB (pt_cm (k_lt hg) (ps 5 v5) pe_int (nomark _))
    (pss_one (ps_expr (pe_bmK hg PySem.F.plainAttrs_list PySem.F.slot_list_append PySem.F.type_list_append mt_append (ps 7 v7) (pa_cons (pe_jn hg pe_str (pe_op (k_add hg) (pe_op (k_add hg) (pe_slice (WL.ok hg) (ps 4 v4) po_none (po_pt (ps 6 v6))) (pe_lst (pa_cons (ps 8 v8) pa_nil))) (pe_slice (WL.ok hg) (ps 4 v4) (po_pt (pe_op (k_add hg) (ps 6 v6) pe_int)) po_none))) pa_nil))))
    (pss_one (ps_expr (pe_bmK hg PySem.F.plainAttrs_list PySem.F.slot_list_append PySem.F.type_list_append mt_append (ps 7 v7) (pa_cons (pe_op (k_add hg) (ps 8 v8) (pe_jn hg pe_str (pe_lc (own := [("_law_turn", 9)]) rfl nd (pi_r1 g_range T.n_range (pa_cons (pcl c_law_take hg (by omega) g__law_take pass0 (pa_cons (ps 0 v0) (pa_cons pe_int pa_nil))) pa_nil)) (blkOk_by (N := n_names) (sc := defScope s_names) (by decide +kernel)) (fun _ _ _ _ _ => (pg_name (i := 9) nd rfl (by first | exact .inl rfl | exact .inr rfl))) (fun _ _ _ _ _ => pts_nil) (fun _ _ _ _ _ => (pcl c_law_of hg.blk (by omega) (by rfl) pass0 (pa_cons (psr 0) (pa_cons (psr 2) pa_nil))))))) pa_nil)))))))))
    (pss_one (ps_ret (ps 7 v7)))))))), ?_⟩
  refine st_start (σ := [some _, some _, none, none, none, none, none, none, none, none]) rfl ?_
  walk_at "dn"
  refine ⟨b, 8, n + 499, rfl, by omega, by omega, hb, fun r H1 r0 r1 f1 b1 => ?_⟩
  walk_at "di"
  have hS1 : SS (E := E0v Γ.K) H [b] H1 [] [boxR b (n + 499)] := (SS.box1 (E := E0v Γ.K) hb).draw .here f1 b1
  refine ⟨fun σ' H' => ∃ (pb : Addr) (bs : List Nat), σ' = [some (.ref b), some (.int m), some (.str (Str.ofString "abcdefghijklmnopqrstuvwxyz")), some (.int (1 + r)), some (.ref pb), none, none, none, none, none] ∧
    SS (E := E0v Γ.K) H [b] H' [] [lstR pb (bs.map fun c => V.str (sg1 c)), boxR b (n + 490)] ∧ bs.length = (1 + r).toNat ∧ ∀ c ∈ bs, 97 ≤ c ∧ c ≤ 122, ⟨_, rfl, by omega, by omega, fun D hD => ?_⟩, ?_⟩
  · refine lq_it walk_range (fun i acc H' => ∃ cs : List Nat, acc = cs.map (fun c => V.str (sg1 c)) ∧ cs.length = i ∧ (∀ c ∈ cs, 97 ≤ c ∧ c ≤ 122) ∧ SS (E := E0v Γ.K) H [b] H' [] [lstR D acc, boxR b (n + 490 + (8 - i))])
      ⟨[], rfl, rfl, (fun _ h => nomatch h), ((hS1.draw .here (Fr.refl) ((hS1.box (.head _)).less (by omega))).newC (o := .lst []) hD (fun z => z))⟩ (fun _ _ _ _ _ => trivial) ?_ ?_
    · rintro i x acc H2 H3 hi hl ⟨cs, rfl, hlen, hcs, s⟩ ⟨rfl, rfl⟩
      walk_at "dn"
      have hbx := s.box (.tail _ (.head _))
      rw [show n + 490 + (8 - i) = n + 490 + (8 - (i + 1)) + 1 from by omega] at hbx
      refine ⟨rfl, b, _, n + 490 + (8 - (i + 1)), rfl, hbx, .inr ⟨_, rfl, by rw [let_len]; omega, by rw [let_len]; omega, fun c hc H4 f4 b4 => ?_⟩⟩
      have s4 := s.draw (.next .here) f4 b4
      refine lq_add s4 hl (lt_size (by omega)) ⟨_, lq_len hl, cs ++ [c], by rw [List.map_append]; rfl, by rw [List.length_append, hlen]; rfl, ?_, s4.app⟩
      intro d hd
      rcases List.mem_append.mp hd with h | h
      · exact hcs d h
      · rw [List.mem_singleton.mp h]; exact let_mem hc
    · rintro acc H2 hl ⟨cs, rfl, hlen, hcs, s⟩
      exact ⟨D, cs, rfl, s.draw (.next .here) (Fr.refl) ((s.box (.tail _ (.head _))).less (by omega)), hlen, hcs⟩
  · rintro σ' H2 ⟨pb, bs, rfl, s2, hbl, hbs⟩
    walk_at "di"
    refine ⟨b, 4, n + 489, rfl, by omega, by omega, s2.box (.tail _ (.head _)), fun kd H3 k0 k1 f3 b3 => ?_⟩
    have s3 := s2.draw (.next .here) f3 b3
    refine ⟨b, _, n + 488, rfl, by omega, by omega, b3, fun pl H4 p0 p1 f4 b4 => ?_⟩
    have s4 := s3.draw (.next .here) f4 b4
    refine ⟨szl (by simp only [List.length_nil]; omega), fun pf hpf => ?_⟩
    have s5 := s4.newC (o := .lst []) hpf (fun z => z)
    walk_at "di"
    refine ⟨b, _, sgs (Str.ofString "abcdefghijklmnopqrstuvwxyz"), n + 400, m, rfl, (s5.box (.tail _ (.tail _ (.head _)))).less (by omega), ?_, .inr ⟨_, rfl, rfl⟩, fun pp xs H6 hpp f6 b6 hxs hpm hxl => ?_⟩
    · unfold sgs; rw [List.length_map, show (Str.ofString "abcdefghijklmnopqrstuvwxyz").cps.toList.length = 26 from by decide +kernel]; omega
    obtain ⟨rr, hpm⟩ := hpm
    obtain ⟨cs, rfl, hcn, hcm⟩ := picked hpm let_nd
    have s6 := s5.drawN (.next (.next .here)) f6 (b6.less (show n + 8 * m ≤ n + 400 by omega)) hpp hxs (fun z => z)
    rw [List.length_map, show (sgs (Str.ofString "abcdefghijklmnopqrstuvwxyz")).length = 26 from by unfold sgs; rw [List.length_map]; decide +kernel] at hxl
    obtain ⟨pn, rfl⟩ : ∃ pn : Nat, pl = pn := ⟨pl.toNat, by omega⟩
    refine ⟨pp, rfl, ⟨_, SqL.of hxs⟩, ?_⟩
    refine lp_list (xs := cs.map fun c => V.str (sg1 c)) (fun i σ H' => ∃ (zs : List Str) (a8 a9 : Option V), σ = [some (.ref b), some (.int m), some (.str (Str.ofString "abcdefghijklmnopqrstuvwxyz")), some (.int (1 + r)), some (.ref pb), some (.int kd), some (.int pn), some (.ref pf), a8, a9] ∧
      SS (E := E0v Γ.K) H [b] H' [] [lstR pp (cs.map fun c => V.str (sg1 c)), lstR pf (zs.map V.str), lstR pb (bs.map fun c => V.str (sg1 c)), boxR b (n + 8 * (m - i))] ∧ zs.length = i ∧
      ∀ (j : Nat) (z : Str), zs[j]? = some z → Nm z ∧ ∃ c, cs[j]? = some c ∧ z.cps.toList[if kd = 1 ∨ kd = 2 then pn else 0]? = some c)
      ⟨[], none, none, rfl, s6, rfl, fun j z h => by simp at h⟩ (fun i σ H' hi ⟨_, _, _, _, s, _⟩ => SqL.of (s.cell (.head _))) ?_ ?_
    · rintro i x σ H7 hi ⟨zs, a8, a9, rfl, s7, hzl, hz⟩
      rw [List.getElem?_map] at hi
      obtain ⟨c, hci, rfl⟩ := Option.map_eq_some_iff.mp hi
      have hil : i < m := by have := (List.getElem?_eq_some_iff.mp hci).1; omega
      have hlc := let_mem (hcm c (List.mem_of_getElem? hci))
      have fin : ∀ (z : Str) (H' : Hp) (b9 : Option V), SS (E := E0v Γ.K) H [b] H' [] [lstR pp (cs.map fun c => V.str (sg1 c)), lstR pf (zs.map V.str), lstR pb (bs.map fun c => V.str (sg1 c)), boxR b (n + 8 * (m - (i + 1)))] →
          Nm z → z.cps.toList[if kd = 1 ∨ kd = 2 then pn else 0]? = some c → rAppend (.ref pf) [.str z] H' fun _ H'' => ∃ (zs : List Str) (a8 a9 : Option V), [some (.ref b), some (.int m), some (.str (Str.ofString "abcdefghijklmnopqrstuvwxyz")), some (.int (1 + r)), some (.ref pb), some (.int kd), some (.int pn), some (.ref pf), some (V.str (sg1 c)), b9] = [some (.ref b), some (.int m), some (.str (Str.ofString "abcdefghijklmnopqrstuvwxyz")), some (.int (1 + r)), some (.ref pb), some (.int kd), some (.int pn), some (.ref pf), a8, a9] ∧
      SS (E := E0v Γ.K) H [b] H'' [] [lstR pp (cs.map fun c => V.str (sg1 c)), lstR pf (zs.map V.str), lstR pb (bs.map fun c => V.str (sg1 c)), boxR b (n + 8 * (m - (i + 1)))] ∧ zs.length = i + 1 ∧
      ∀ (j : Nat) (z : Str), zs[j]? = some z → Nm z ∧ ∃ c, cs[j]? = some c ∧ z.cps.toList[if kd = 1 ∨ kd = 2 then pn else 0]? = some c := by
        intro z H' b9 s' hn hp
        refine ap_ss (v := V.str z) s' (.next .here) (lt_size (by rw [List.length_map]; omega)) fun H'' s'' => ⟨zs ++ [z], _, _, rfl, by rw [List.map_append]; exact s'', by rw [List.length_append, hzl]; rfl, fun j y hy => ?_⟩
        by_cases hj : j < i
        · rw [List.getElem?_append_left (by omega)] at hy; exact hz j y hy
        · have hj2 := (List.getElem?_eq_some_iff.mp hy).1
          rw [List.length_append, hzl] at hj2
          obtain rfl : j = i := by simp only [List.length_cons, List.length_nil] at hj2; omega
          rw [← hzl, List.getElem?_concat_length] at hy
          cases hy
          exact ⟨hn, c, hci, hp⟩
      have hbx := s7.box (.tail _ (.tail _ (.tail _ (.head _))))
      walk_at "dn"
      refine br_d (fun hk => ?_) (fun hk => br_d (fun hk3 => ?_) (fun hk3 => ?_))
      · refine ⟨ty_l (SqL.of (s7.cell (.tail _ (.head _)))), fin (sg1 c) H7 a9 (s7.draw (.next (.next (.next .here))) (Fr.refl) (hbx.less (by omega))) ⟨Nat.le_refl 1, (by show 1 ≤ 8; omega), ?_⟩ ?_⟩
        · intro d hd
          rw [List.mem_singleton.mp (show d ∈ [c] from hd)]; exact hlc
        · rw [if_neg (by omega)]; rfl
      · refine ⟨ty_l (SqL.of (s7.cell (.tail _ (.head _)))), ⟨_, rfl⟩, wl_l (SqL.of (s7.cell (.tail _ (.tail _ (.head _))))) fun p1 hp1 => ?_⟩
        rw [cut_to] at *
        refine ⟨szl (by simp only [List.length_cons, List.length_nil]; omega), fun p2 hp2 => ?_⟩
        have t1 := s7.newC (o := .lst ((bs.map fun c => V.str (sg1 c)).take pn)) hp1 (fun z => z)
        have t2 := t1.newC (o := .lst [V.str (sg1 c)]) hp2 (fun z => z)
        refine wo_cat (t2.cell (.tail _ (.head _))) (t2.cell (.head _)) (szl (by simp only [List.length_cons, List.length_nil, List.length_take, List.length_map]; omega)) fun p3 hp3 => ?_
        have t3 := t2.newC (o := .lst ((bs.map fun c => V.str (sg1 c)).take pn ++ [V.str (sg1 c)])) hp3 (fun z => z)
        refine wl_l (SqL.of (t3.cell (.tail _ (.tail _ (.tail _ (.tail _ (.tail _ (.head _)))))))) fun p4 hp4 => ?_
        rw [show ((pn : Int) + 1) = ((pn + 1 : Nat) : Int) from by omega, cut_from] at *
        have t4 := t3.newC (o := .lst ((bs.map fun c => V.str (sg1 c)).drop (pn + 1))) hp4 (fun z => z)
        refine wo_cat (t4.cell (.tail _ (.head _))) (t4.cell (.head _)) (szl (by simp only [List.length_append, List.length_cons, List.length_nil, List.length_take, List.length_drop, List.length_map]; omega)) fun p5 hp5 => ?_
        have t5 := t4.newC (o := .lst ((bs.map fun c => V.str (sg1 c)).take pn ++ [V.str (sg1 c)] ++ (bs.map fun c => V.str (sg1 c)).drop (pn + 1))) hp5 (fun z => z)
        have el : (bs.map fun c => V.str (sg1 c)).take pn ++ [V.str (sg1 c)] ++ (bs.map fun c => V.str (sg1 c)).drop (pn + 1) = ((bs.take pn ++ [c] ++ bs.drop (pn + 1)).map sg1).map V.str := by
          simp only [List.map_append, List.map_take, List.map_drop, List.map_map, List.map_cons, List.map_nil]
          rfl
        have ll : (bs.take pn ++ [c] ++ bs.drop (pn + 1)).length = bs.length := by
          simp only [List.length_append, List.length_cons, List.length_nil, List.length_take, List.length_drop]
          omega
        refine ⟨_, p5, (bs.take pn ++ [c] ++ bs.drop (pn + 1)).map sg1, rfl, rfl, .inl (SqL.of (by rw [← el]; exact t5.cell (.head _))), ?_, ?_⟩
        · rw [sg_sum, ll, List.length_map, ll, show (Str.ofString "").length = 0 from rfl]; omega
        · rw [jn1]
          refine fin _ _ _ (t5.drop.drop.drop.drop.drop.draw (.next (.next (.next .here))) (Fr.refl) ((t5.box (.tail _ (.tail _ (.tail _ (.tail _ (.tail _ (.tail _ (.tail _ (.tail _ (.head _)))))))))).less (by omega))) ⟨?_, ?_, fun d hd => ?_⟩ ?_
          · show 1 ≤ (bs.take pn ++ [c] ++ bs.drop (pn + 1)).toArray.size
            rw [List.size_toArray, ll]; omega
          · show (bs.take pn ++ [c] ++ bs.drop (pn + 1)).toArray.size ≤ 8
            rw [List.size_toArray, ll]; omega
          · have hd2 : d ∈ bs.take pn ++ [c] ++ bs.drop (pn + 1) := hd
            rcases List.mem_append.mp hd2 with h | h
            · rcases List.mem_append.mp h with h | h
              · exact hbs d (List.mem_of_mem_take h)
              · rw [List.mem_singleton.mp h]; exact hlc
            · exact hbs d (List.mem_of_mem_drop h)
          · rw [if_pos (by omega)]
            show (bs.take pn ++ [c] ++ bs.drop (pn + 1))[pn]? = some c
            rw [List.append_assoc, List.getElem?_append_right (by rw [List.length_take]; omega), List.length_take, Nat.min_eq_left (by omega), Nat.sub_self]
            rfl
      · refine ⟨ty_l (SqL.of (s7.cell (.tail _ (.head _)))), ⟨_, rfl⟩, b, 8, n + 8 * (m - (i + 1)) + 7, rfl, by omega, by omega, hbx.less (by omega), fun r2 H8 q0 q1 f8 b8 => ⟨r2, rfl, by omega, by omega, fun D hD => ?_⟩⟩
        have s8 := s7.draw (.next (.next (.next .here))) f8 b8
        refine lq_it walk_range (fun i2 acc H' => ∃ cs2 : List Nat, acc = cs2.map (fun c => V.str (sg1 c)) ∧ cs2.length = i2 ∧ (∀ c ∈ cs2, 97 ≤ c ∧ c ≤ 122) ∧ SS (E := E0v Γ.K) H [b] H' [] [lstR D acc, lstR pp (cs.map fun c => V.str (sg1 c)), lstR pf (zs.map V.str), lstR pb (bs.map fun c => V.str (sg1 c)), boxR b (n + 8 * (m - (i + 1)) + (7 - i2))])
          ⟨[], rfl, rfl, (fun _ h => nomatch h), s8.newC (o := .lst []) hD (fun z => z)⟩ (fun _ _ _ _ _ => trivial) ?_ ?_
        · rintro i2 x acc H9 H10 hi2 hl2 ⟨cs2, rfl, hlen2, hcs2, s⟩ ⟨rfl, rfl⟩
          walk_at "dn"
          have hb2 := s.box (.tail _ (.tail _ (.tail _ (.tail _ (.head _)))))
          rw [show n + 8 * (m - (i + 1)) + (7 - i2) = n + 8 * (m - (i + 1)) + (7 - (i2 + 1)) + 1 from by omega] at hb2
          refine ⟨rfl, b, _, n + 8 * (m - (i + 1)) + (7 - (i2 + 1)), rfl, hb2, .inr ⟨_, rfl, by rw [let_len]; omega, by rw [let_len]; omega, fun c2 hc2 H11 f11 b11 => ?_⟩⟩
          have s11 := s.draw (.next (.next (.next (.next .here)))) f11 b11
          refine lq_add s11 hl2 (lt_size (by omega)) ⟨_, lq_len hl2, cs2 ++ [c2], by rw [List.map_append]; rfl, by rw [List.length_append, hlen2]; rfl, ?_, s11.app⟩
          intro d hd
          rcases List.mem_append.mp hd with h | h
          · exact hcs2 d h
          · rw [List.mem_singleton.mp h]; exact let_mem hc2
        · rintro acc H9 hl2 ⟨cs2, rfl, hlen2, hcs2, s⟩
          have hc7 : cs2.length ≤ 7 := by omega
          refine ⟨_, D, cs2.map sg1, rfl, rfl, .inl (SqL.of (by have := s.cell (.head _); rw [List.map_map]; exact this)), ?_, ?_⟩
          · rw [sg_sum, List.length_map, show (Str.ofString "").length = 0 from rfl]; omega
          · rw [jn1]
            walk_at "di"
            have ll : (sg1 c ++ (⟨cs2.toArray⟩ : Str)).cps.toList = c :: cs2 := by rw [app_list]; rfl
            have ln : (sg1 c ++ (⟨cs2.toArray⟩ : Str)).length = cs2.length + 1 := by
              show (sg1 c ++ (⟨cs2.toArray⟩ : Str)).cps.size = _
              rw [← Array.length_toList, ll]; rfl
            refine ⟨Nat.le_of_lt (lt_size (by show 1 + cs2.toArray.size < 100000; rw [List.size_toArray]; omega)), fin _ _ _ (s.drop.draw (.next (.next (.next .here))) (Fr.refl) ((s.box (.tail _ (.tail _ (.tail _ (.tail _ (.head _)))))).less (by omega))) ⟨by rw [ln]; omega, by rw [ln]; omega, fun d hd => ?_⟩ ?_⟩
            · rw [ll] at hd
              rcases List.mem_cons.mp hd with h | h
              · rw [h]; exact hlc
              · exact hcs2 d h
            · rw [if_neg (by omega), ll]; rfl
    · rintro σ H7 ⟨zs, a8, a9, rfl, s7, hzl, hz⟩
      have hzm : zs.length = m := by rw [hzl, List.length_map]; omega
      refine q pf zs H7 ?_ s7.fr ((s7.box (.tail _ (.tail _ (.tail _ (.head _))))).less (by omega)) (s7.cell (.tail _ (.head _))) hzm ?_ fun z hz2 => ?_
      · cases e : H pf with
        | none => rfl
        | some o =>
          exfalso
          by_cases hs : pf = b
          · obtain ⟨xs, e2⟩ := b4.cell
            rw [hs, e2] at hpf; cases hpf
          · rw [s4.fr pf o (fun z => hs (List.mem_singleton.mp z)) e] at hpf; cases hpf
      · refine List.pairwise_iff_getElem.mpr fun j k hj hk hjk he => ?_
        obtain ⟨_, c1, hc1, hp1⟩ := hz j _ (List.getElem?_eq_getElem hj)
        obtain ⟨_, c2, hc2, hp2⟩ := hz k _ (List.getElem?_eq_getElem hk)
        rw [he, hp2] at hp1
        cases hp1
        have := nd_ix hcn hc1 hc2
        omega
      · obtain ⟨j, hj⟩ := List.mem_iff_getElem?.mp hz2
        exact (hz j z hj).1
def LET : Str := "abcdefghijklmnopqrstuvwxyz"
def spIsNum : Sp := fun vs H Q _ => ∃ i : Int, vs = [.int i] ∧ Q (.bl true) H
def spIsName : Sp := fun vs H Q _ => ∃ z, vs = [.str z] ∧ Nm z ∧ ∀ H', Same H H' → Q (.bl true) H'
def spBackOf (K : PySem.W.Frag) (d : Nat) : Sp := fun vs H Q _ => ∃ (p : Addr) (t : Tr), vs = [.ref p] ∧ TrP K H t p ∧ t.walk ∧ t.dep ≤ d ∧ ∀ q H', Same H H' → TrP K H' t.back q → Q (.ref q) H'
def spRep (K : PySem.W.Frag) : Sp := fun vs H Q _ => ∃ (p : Addr) (t : Tr) (n : Nat), vs = [.ref p, .int n] ∧ TrP K H t p ∧ n ≤ 9 ∧ ∀ q H', Same H H' → TrP K H' (t.grp n) q → Q (.ref q) H'
def spParts (K : PySem.W.Frag) : Sp := fun vs H Q _ => ∃ (p : Addr) (t : Tr), vs = [.ref p] ∧ TrP K H t p ∧ ∀ l ps H', H l = none → Same H H' → H' l = some (.lst (ps.map V.ref)) → TrPs K H' t.subs ps → Q (.ref l) H'
def spNames (K : PySem.W.Frag) (d : Nat) : Sp := fun vs H Q _ => ∃ (p : Addr) (t : Tr) (w : Str), vs = [.ref p, .str w] ∧ (w = "step" ∨ w = "marked") ∧ t.ok ∧ TrP K H t p ∧ t.dep ≤ d ∧ (t.told w).length < 64 ∧
  ∀ q ys H', Same H H' → SqT K H' q (ys.map V.str) → sortedS ys = true → ys.Nodup → (∀ z, z ∈ ys ↔ z ∈ t.told w) → Q (.ref q) H'
def spSteps (K : PySem.W.Frag) (d : Nat) : Sp := fun vs H Q _ => ∃ (p : Addr) (t : Tr), vs = [.ref p] ∧ t.ok ∧ TrP K H t p ∧ t.dep ≤ d ∧ ∀ H', Same H H' → Q (.int t.steps) H'
abbrev s_isname : Stmt := topS 14
abbrev n_isname : List Str := ["value", "sign"]
theorem sc_isname : FnScope n_isname ["value"] (defScope s_isname) := ⟨rfl, rfl, rfl, by decide +kernel, rfl, by decide +kernel, by decide +kernel⟩
theorem nm_isname : nvB n_isname (defScope s_isname) 0 "value" = true ∧ gvB (defScope s_isname) "all" = true ∧ gvB (defScope s_isname) "isinstance" = true ∧ gvB (defScope s_isname) "len" = true ∧ gvB (defScope s_isname) "str" = true := by decide +kernel
theorem cl_isname {Γ : Gm} (dfn : Dfn Γ "is_name" s_isname ["value"]) (T : Names Γ) (gc_LETTERS : ∃ u, Γ.mg "LETTERS" = some u ∧ RelV (.str LET) u) : Cl Γ CX0 (1) "is_name" spIsName [] := by
  refine dfn.cl sc_isname (fun vs H Q E h => ?_) (fun f cdv A outer s H vs Q E hg h => ?_)
  · obtain ⟨i, rfl, _⟩ := h
    rfl
  obtain ⟨z, rfl, ⟨n1, n2, n3⟩, q⟩ := h
  have nd := sc_isname.nd
  obtain ⟨v0, g_all, g_isinstance, g_len, g_str⟩ := nm_isname
  refine ⟨_, (pss_one (ps_ret (pe_and2 hg (pcb (WC.ok hg) g_isinstance T.n_isinstance bt_isinstance (pa_cons (ps 0 v0) (pa_cons (pe_bltn (v := .ty "str") (gv_of g_str).1 T.n_str bt_str rfl) pa_nil))) (pe_and2 hg (pe_ch (k_le hg) (k_le hg) pe_int (pcb (k_len hg) g_len T.n_len bt_len (pa_cons (ps 0 v0) pa_nil)) pe_int) (pe_one (pcb (WC.ok hg) g_all T.n_all bt_all (pa_cons (pe_lc (own := [("sign", 1)]) rfl nd (pi_str (ps 0 v0)) (blkOk_by (N := n_isname) (sc := defScope s_isname) (by decide +kernel)) (fun _ _ _ _ _ => (pg_name (i := 1) nd rfl (by first | exact .inl rfl | exact .inr rfl))) (fun _ _ _ _ _ => pts_nil) (fun _ _ _ _ _ => (pe_cmpR (WO.ok hg.blk) (psr 1) (C8.pe_gc (gv_of (by rfl)).1 gc_LETTERS) (by with_unfolding_all rfl)))) pa_nil))))))), ?_⟩
  refine st_start (σ := [some _, none]) rfl ?_
  walk_at "dn"
  refine wc_isi (.ty "str") (.base (.str _)) (kit_ty (r := true) (by decide +kernel)) ?_
  walk_at "di"
  refine ⟨szl (by omega), br_t (by omega) (br_t (by omega) ⟨z, rfl, fun D hD => ?_⟩)⟩
  refine lq_it walk_str (fun i acc H' => SS (E := E1 Γ) H [] H' [] [lstR D acc] ∧ acc = (List.replicate i true).map V.bl) ⟨SS.start0.newC hD (fun z => z), rfl⟩ (fun _ _ _ _ _ => trivial) ?_ ?_
  · rintro i x acc H1 H2 hi hl ⟨s, ha⟩ ⟨rfl, c, hc, rfl⟩
    walk_at "dn"
    refine ⟨rfl, wo_in1 ?_⟩
    have hcm : c ∈ z.cps.toList := by rw [Array.mem_toList_iff]; exact Array.mem_of_getElem? hc
    have h97 := n3 c hcm
    have e : decide (c ∈ LET.cps.toList) = true := by
      have key : ∀ n : Fin 26, decide (97 + n.val ∈ LET.cps.toList) = true := by decide +kernel
      have := key ⟨c - 97, by omega⟩
      rw [show 97 + (c - 97) = c from by omega] at this
      exact this
    rw [e]
    refine lq_add s hl (lt_size (by have h2 : i < z.length := hi; omega)) ⟨_, lq_len hl, s.app, ?_⟩
    rw [ha, List.replicate_succ', List.map_append]
    rfl
  · rintro acc H1 hl ⟨s, ha⟩
    subst ha
    refine wc_all (SqL.of (s.cell (.head _))) ?_
    rw [show (List.replicate z.cps.size true).all id = true from by simp]
    exact q H1 s.fr.same
def spTree (K : PySem.W.Frag) (C : Addr) : Sp := fun vs H Q _ => ∃ (a : Addr) (t : Tr), vs = [.ref a] ∧ LkP K H C t a ∧ ∀ p, TrP K H t p → Q (.ref p) H
def spTold (K : PySem.W.Frag) (C : Addr) (w : Str) (d : Nat) : Sp := fun vs H Q _ => ∃ (a : Addr) (t : Tr), vs = [.ref a] ∧ LkP K H C t a ∧ t.ok ∧ t.dep ≤ d ∧ (t.told w).length < 64 ∧
  ∀ q ys H', Same H H' → SqT K H' q (ys.map V.str) → sortedS ys = true → ys.Nodup → (∀ z, z ∈ ys ↔ z ∈ t.told w) → Q (.ref q) H'
def spStepsC (K : PySem.W.Frag) (C : Addr) (d : Nat) : Sp := fun vs H Q _ => ∃ (a : Addr) (t : Tr), vs = [.ref a] ∧ LkP K H C t a ∧ t.ok ∧ t.dep ≤ d ∧ ∀ H', Same H H' → Q (.int t.steps) H'
def spEqC (K : PySem.W.Frag) (C : Addr) : Sp := fun vs H Q _ => ∃ (a : Addr) (t : Tr) (y : V), vs = [.ref a, y] ∧ LkP K H C t a ∧ t.ok ∧ t.dep ≤ 64 ∧
  ((∃ (b : Addr) (s : Tr), y = .ref b ∧ LkP K H C s b ∧ s.ok ∧ s.dep ≤ 64 ∧ Q (.bl (decide (t = s))) H) ∨ ∃ u, TyX K H y u ∧ PySem.W.kitOne K u (.ref C) = some false ∧ Q (.bl false) H)
def spBin (K : PySem.W.Frag) (C : Addr) (w : Str) : Sp := fun vs H Q _ => ∃ (a b : Addr) (t s : Tr), vs = [.ref a, .ref b] ∧ LkP K H C t a ∧ LkP K H C s b ∧ ∀ c H', Same H H' → LkP K H' C (.two w t s) c → Q (.ref c) H'
def spUn (K : PySem.W.Frag) (C D : Addr) (w : Str) : Sp := fun vs H Q _ => ∃ (a : Addr) (t : Tr), vs = [.ref a] ∧ LkP K H C t a ∧ ∀ c H', Same H H' → LkP K H' D (.one w t) c → Q (.ref c) H'
def spNeg (K : PySem.W.Frag) (C : Addr) (d : Nat) : Sp := fun vs H Q _ => ∃ (a : Addr) (t : Tr), vs = [.ref a] ∧ LkP K H C t a ∧ t.walk ∧ t.dep ≤ d ∧ ∀ c H', Same H H' → LkP K H' C t.back c → Q (.ref c) H'
def spPow (K : PySem.W.Frag) (C : Addr) : Sp := fun vs H Q _ => ∃ (a : Addr) (t : Tr) (n : Nat), vs = [.ref a, .int n] ∧ LkP K H C t a ∧ n ≤ 9 ∧ ∀ c H', Same H H' → LkP K H' C (t.grp n) c → Q (.ref c) H'
def spWith (K : PySem.W.Frag) (C C2 D : Addr) (w : Str) : Sp := fun vs H Q _ => ∃ (a b : Addr) (t s : Tr), vs = [.ref a, .ref b] ∧ LkP K H C t a ∧ LkP K H C2 s b ∧ ∀ c H', Same H H' → LkP K H' D (.two w t s) c → Q (.ref c) H'
def spZ (K : PySem.W.Frag) (C : Addr) (w : Str) : Sp := fun vs H Q _ => vs = [] ∧ ∀ c H', Same H H' → LkP K H' C (.z w) c → Q (.ref c) H'
def spMarked (K : PySem.W.Frag) (C : Addr) : Sp := fun vs H Q _ => ∃ z, vs = [.str z] ∧ Nm z ∧ ∀ c H', Same H H' → LkP K H' C (.mk z) c → Q (.ref c) H'
def spStep (K : PySem.W.Frag) (C : Addr) : Sp := fun vs H Q _ => ∃ z, ∃ i : Int, vs = [.str z, .int i] ∧ Nm z ∧ (-9 ≤ i ∧ i ≤ 9) ∧ ∀ c H', Same H H' → LkP K H' C ((Tr.st z (if 0 < i then 1 else -1)).grp i.natAbs) c → Q (.ref c) H'
def spIsNum2 : Sp := fun vs H Q _ => ∃ v, vs = [v] ∧ ((∃ i : Int, v = .int i ∧ Q (.bl true) H) ∨ (((∃ b, v = .bl b) ∨ (∃ z, v = .str z) ∨ v = .non) ∧ Q (.bl false) H))
def spChk (K : PySem.W.Frag) : Sp := fun vs H Q _ => ∃ (p : Addr) (b : Bool) (zs : List Str), vs = [.ref p] ∧ SqB K H p (zs.map V.str) b ∧ (∀ z ∈ zs, Nm z) ∧ zs.Nodup ∧ zs.length ≤ 20 ∧
  ∀ q ys H', Same H H' → SqT K H' q (ys.map V.str) → Asc ys → (∀ z, z ∈ ys ↔ z ∈ zs) → Q (.ref q) H'
def spTLen (K : PySem.W.Frag) (C : Addr) : Sp := fun vs H Q _ => ∃ (A : TAd) (B : Tb), vs = [.ref A.a] ∧ TbP K C A B H ∧ Q (.int B.rows.length) H
def spTKinds (K : PySem.W.Frag) (C : Addr) : Sp := fun vs H Q _ => ∃ (A : TAd) (B : Tb), vs = [.ref A.a] ∧ TbP K C A B H ∧ Q (.ref A.ps) H
def spCont (K : PySem.W.Frag) (C : Addr) : Sp := fun vs H Q _ => ∃ (A : TAd) (B : Tb) (y : V), vs = [.ref A.a, y] ∧ TbP K C A B H ∧
  ((∃ i : Int, y = .int i ∧ Q (.bl (decide (0 ≤ i ∧ i < B.rows.length))) H) ∨ (((∃ b, y = .bl b) ∨ (∃ z, y = .str z) ∨ y = .non) ∧ Q (.bl false) H))
def spNeedRow (K : PySem.W.Frag) (C : Addr) : Sp := fun vs H Q _ => ∃ (A : TAd) (B : Tb) (i : Nat), vs = [.ref A.a, .int i] ∧ TbP K C A B H ∧ i < B.rows.length ∧ Q .non H
def spPut (K : PySem.W.Frag) (C : Addr) : Sp := fun vs H Q _ => ∃ (A : TAd) (B : Tb) (x : Int) (p : Addr) (ms : List Str), vs = [.ref A.a, .int x, .ref p] ∧ TbP K C A B H ∧ SqT K H p (ms.map V.str) ∧ (∀ z ∈ ms, Nm z) ∧ ms.length < 60 ∧ B.rows.length < 10000 ∧
  ∀ zs H', Asc zs → (∀ z, z ∈ zs ↔ z ∈ ms) → Fr A.fp H H' → TbP K C A { B with rows := B.rows ++ [(zs, x)] } H' → Q (.int B.rows.length) H'
def spMark (K : PySem.W.Frag) (C : Addr) : Sp := fun vs H Q _ => ∃ (A : TAd) (B : Tb) (i : Nat) (nm : Str) (r : List Str × Int), vs = [.ref A.a, .int i, .str nm] ∧ TbP K C A B H ∧ B.rows[i]? = some r ∧ Nm nm ∧ r.1.length < 60 ∧
  ∀ zs H', Asc zs → (∀ z, z ∈ zs ↔ z ∈ r.1 ∨ z = nm) → Fr A.fp H H' → TbP K C A { B with rows := B.rows.set i (zs, r.2) } H' → Q .non H'
def spUnmark (K : PySem.W.Frag) (C : Addr) : Sp := fun vs H Q _ => ∃ (A : TAd) (B : Tb) (i : Nat) (nm : Str) (r : List Str × Int), vs = [.ref A.a, .int i, .str nm] ∧ TbP K C A B H ∧ B.rows[i]? = some r ∧ Nm nm ∧ r.1.length < 60 ∧
  ∀ zs H', Asc zs → (∀ z, z ∈ zs ↔ z ∈ r.1 ∧ z ≠ nm) → Fr A.fp H H' → TbP K C A { B with rows := B.rows.set i (zs, r.2) } H' → Q .non H'
def spMarksOf (K : PySem.W.Frag) (C : Addr) : Sp := fun vs H Q _ => ∃ (A : TAd) (B : Tb) (i : Nat) (r : List Str × Int), vs = [.ref A.a, .int i] ∧ TbP K C A B H ∧ B.rows[i]? = some r ∧ ∀ p, SqT K H p (r.1.map V.str) → Q (.ref p) H
def spTGet (K : PySem.W.Frag) (C : Addr) : Sp := fun vs H Q _ => ∃ (A : TAd) (B : Tb) (i : Nat) (r : List Str × Int), vs = [.ref A.a, .int i] ∧ TbP K C A B H ∧ B.rows[i]? = some r ∧ Q (.int r.2) H
def spTSet (K : PySem.W.Frag) (C : Addr) : Sp := fun vs H Q _ => ∃ (A : TAd) (B : Tb) (i : Nat) (x : Int) (r : List Str × Int), vs = [.ref A.a, .int i, .int x] ∧ TbP K C A B H ∧ B.rows[i]? = some r ∧
  ∀ H', Fr A.fp H H' → TbP K C A { B with rows := B.rows.set i (r.1, x) } H' → Q .non H'
abbrev s_isnum2 : Stmt := topS 13
abbrev n_isnum2 : List Str := ["value"]
theorem sc_isnum2 : FnScope n_isnum2 ["value"] (defScope s_isnum2) := ⟨rfl, rfl, rfl, by decide +kernel, rfl, by decide +kernel, by decide +kernel⟩
theorem nm_isnum2 : nvB n_isnum2 (defScope s_isnum2) 0 "value" = true ∧ gvB (defScope s_isnum2) "bool" = true ∧ gvB (defScope s_isnum2) "int" = true ∧ gvB (defScope s_isnum2) "isinstance" = true := by decide +kernel
theorem cl_isnum2 {Γ : Gm} (dfn : Dfn Γ "is_number" s_isnum2 ["value"]) (T : Names Γ) : Cl Γ CX0 (1) "is_number" spIsNum2 [] := by
  refine dfn.cl sc_isnum2 (fun vs H Q E h => ?_) (fun f cdv A outer s H vs Q E hg h => ?_)
  · obtain ⟨i, rfl, _⟩ := h
    rfl
  obtain ⟨v, rfl, h⟩ := h
  have nd := sc_isnum2.nd
  obtain ⟨v0, g_bool, g_int, g_isinstance⟩ := nm_isnum2
  refine ⟨_, (pss_one (ps_ret (pe_and2 hg (pcb (WC.ok hg) g_isinstance T.n_isinstance bt_isinstance (pa_cons (ps 0 v0) (pa_cons (pe_bltn (v := .ty "int") (gv_of g_int).1 T.n_int bt_int rfl) pa_nil))) (pe_one (pe_not2 hg (pcb (WC.ok hg) g_isinstance T.n_isinstance bt_isinstance (pa_cons (ps 0 v0) (pa_cons (pe_bltn (v := .ty "bool") (gv_of g_bool).1 T.n_bool bt_bool rfl) pa_nil)))))))), ?_⟩
  refine st_start (σ := [some _]) rfl ?_
  walk_at "dn"
  rcases h with ⟨i, rfl, q⟩ | ⟨h, q⟩
  · refine wc_isi (.ty "int") (.base (.int _)) (kit_ty (r := true) (by decide +kernel)) ?_
    walk_at "di"
    refine wc_isi (.ty "bool") (.base (.int _)) (kit_ty (r := false) (by decide +kernel)) ?_
    walk_at "di"
    exact q
  · rcases h with ⟨b, rfl⟩ | ⟨z, rfl⟩ | rfl
    · refine wc_isi (.ty "int") (.base (.bl _)) (kit_ty (r := true) (by decide +kernel)) ?_
      walk_at "di"
      refine wc_isi (.ty "bool") (.base (.bl _)) (kit_ty (r := true) (by decide +kernel)) ?_
      walk_at "di"
      exact q
    · refine wc_isi (.ty "int") (.base (.str _)) (kit_ty (r := false) (by decide +kernel)) ?_
      walk_at "di"
      exact q
    · refine wc_isi (.ty "int") (.base .non) (kit_ty (r := false) (by decide +kernel)) ?_
      walk_at "di"
      exact q
abbrev s_chk : Stmt := topS 16
abbrev n_chk : List Str := ["kinds", "kind", "seen"]
theorem sc_chk : FnScope n_chk ["kinds"] (defScope s_chk) := ⟨rfl, rfl, rfl, by decide +kernel, rfl, by decide +kernel, by decide +kernel⟩
theorem nm_chk : nvB n_chk (defScope s_chk) 0 "kinds" = true ∧ nvB n_chk (defScope s_chk) 1 "kind" = true ∧ nvB n_chk (defScope s_chk) 2 "seen" = true ∧ lvB n_chk (defScope s_chk) 1 "kind" = true ∧ lvB n_chk (defScope s_chk) 2 "seen" = true ∧ gvB (defScope s_chk) "is_name" = true ∧ gvB (defScope s_chk) "sorted" = true ∧ gvB (defScope s_chk) "tuple" = true := by decide +kernel
theorem cl_chk {Γ : Gm} (dfn : Dfn Γ "checked_kinds" s_chk ["kinds"]) (T : Names Γ) (c_is_name : Cl Γ CX0 1 "is_name" spIsName []) : Cl Γ CX0 (2) "checked_kinds" (spChk Γ.K) [] := by
  refine dfn.cl sc_chk (fun vs H Q E h => ?_) (fun f cdv A outer s H vs Q E hg h => ?_)
  · obtain ⟨p, b, zs, rfl, _⟩ := h
    rfl
  obtain ⟨p, b, zs, rfl, hz, nz, nd0, lz, q⟩ := h
  have nd := sc_chk.nd
  obtain ⟨v0, v1, v2, l1, l2, g_is_name, g_sorted, g_tuple⟩ := nm_chk
  refine ⟨_, (C8.pss_cut (ps_for PassesOwn.never rfl (pi_lt hg (ps 0 v0)) (pgn (i := 1) nd l1)
    (pss_one (ps_ifB (pt_not (pt_tr hg (pcl c_is_name hg (by omega) g_is_name pass0 (pa_cons (ps 1 v1) pa_nil))))
    (pss_one ps_never)
    pss_nil)))
    (pss_cons (pst (i := 2) nd l2 (pe_lst pa_nil))
    (pss_cons (ps_for PassesOwn.never rfl (pi_lt hg (ps 0 v0)) (pgn (i := 1) nd l1)
    (pss_cons (ps_ifB (pt_cm (WO.ok hg) (ps 1 v1) (ps 2 v2) (by with_unfolding_all rfl))
    (pss_one ps_never)
    pss_nil)
    (pss_one (ps_expr (pe_bmK hg PySem.F.plainAttrs_list PySem.F.slot_list_append PySem.F.type_list_append mt_append (ps 2 v2) (pa_cons (ps 1 v1) pa_nil))))))
    (pss_one (ps_ret (pct (WC.ok hg) g_tuple T.n_tuple bt_tuple (pa_cons (pcb (WC.ok hg) g_sorted T.n_sorted bt_sorted (pa_cons (ps 2 v2) pa_nil)) pa_nil))))))), ?_⟩
  refine st_start (σ := [some _, none, none]) rfl ?_
  walk_at "dn"
  have it : ∀ {i : Nat} {x : V}, (zs.map V.str)[i]? = some x → ∃ z, zs[i]? = some z ∧ x = .str z := fun e => by
    rw [List.getElem?_map] at e
    obtain ⟨z, h1, rfl⟩ := Option.map_eq_some_iff.mp e
    exact ⟨z, h1, rfl⟩
  refine ⟨fun σ' H1 => ∃ c, σ' = [some (.ref p), c, none] ∧ Same H H1, ?_, ?_⟩
  · refine ⟨b, p, rfl, ⟨_, hz⟩, ?_⟩
    refine lp_lt (xs := zs.map V.str) b (fun i σ H' => ∃ c, σ = [some (.ref p), c, none] ∧ Same H H') ⟨none, rfl, Same.refl _⟩ (fun i σ H' _ ⟨_, _, s⟩ => hz.same s) ?_ (fun σ H' h => h)
    rintro i x σ H1 hx ⟨c, rfl, s1⟩
    obtain ⟨z, hz1, rfl⟩ := it hx
    walk_at "dn"
    refine ⟨z, rfl, nz z (List.mem_of_getElem? hz1), fun H2 s2 => ?_⟩
    walk_at "di"
    exact ⟨_, rfl, s1.trans s2⟩
  rintro σ' H1 ⟨c, rfl, s1⟩
  walk_at "dn"
  refine ⟨szl (by simp only [List.length_nil]; omega), fun l hl => ⟨b, p, rfl, ⟨_, (hz.same s1).same (Same.mk hl)⟩, ?_⟩⟩
  have s2 : SS (E := E1 Γ) H1 [] (upd H1 l (.lst [])) [] [lstR l []] := SS.start0.newC hl (fun z => z)
  refine lp_lt (xs := zs.map V.str) b (fun i σ H' => ∃ c, σ = [some (.ref p), c, some (.ref l)] ∧ SS (E := E1 Γ) H1 [] H' [] [lstR l ((zs.take i).map V.str)]) ⟨_, rfl, s2⟩ (fun i σ H' _ ⟨_, _, s⟩ => (hz.same s1).same s.fr.same) ?_ ?_
  · rintro i x σ H2 hx ⟨c, rfl, s⟩
    obtain ⟨z, hz1, rfl⟩ := it hx
    have hi := (List.getElem?_eq_some_iff.mp hz1).1
    walk_at "dn"
    refine wo_inS (.inl (SqL.of (s.cell (.head _)))) ?_
    have hn : z ∉ zs.take i := fun h => by
      obtain ⟨j, hj, e⟩ := List.mem_iff_getElem.mp h
      rw [List.length_take] at hj
      have h1 : zs[j]? = some z := by rw [← e, List.getElem_take]; exact List.getElem?_eq_getElem (by omega)
      have h2 : zs[j]? = zs[i]? := h1.trans hz1.symm
      have := (List.getElem?_inj (by omega) nd0).mp h2
      omega
    rw [decide_eq_false hn]
    walk_at "di"
    refine ⟨ty_l (SqL.of (s.cell (.head _))), ap_ss s .here (lt_size (by rw [List.length_map, List.length_take]; omega)) fun H3 s3 => ⟨_, rfl, ?_⟩⟩
    rw [List.take_add_one, hz1, List.map_append]
    exact s3
  · rintro σ H2 ⟨c, rfl, s⟩
    rw [List.length_map, List.take_length] at s
    walk_at "dn"
    refine wc_sortS (SqL.of (s.cell (.head _))) (by omega) fun ys p2 hperm hsort hp2 => ?_
    refine wc_tup (SqL.of upd_same) fun p3 hp3 => ?_
    refine q p3 ys _ (((s1.trans s.fr.same).trans (Same.mk hp2)).trans (Same.mk hp3)) (SqT.of upd_same) ⟨sorted_pw hsort, hperm.nodup_iff.mpr nd0, fun z hz => (nz z (hperm.mem_iff.mp hz)).ok⟩ fun z => hperm.mem_iff
abbrev s_T_kinds : Stmt := inClass (topS 17) 1
abbrev n_T_kinds : List Str := ["self"]
theorem sc_T_kinds : FnScope n_T_kinds ["self"] (defScope s_T_kinds) := ⟨rfl, rfl, rfl, by decide +kernel, rfl, by decide +kernel, by decide +kernel⟩
theorem nm_T_kinds : nvB n_T_kinds (defScope s_T_kinds) 0 "self" = true := by decide +kernel
theorem cl_T_kinds {Γ : Gm} {C : Addr} (dfn : DfP Γ C "kinds" "Table.kinds" s_T_kinds ["self"]) (T : Names Γ) (L : KT Γ C) : Pr Γ CX0 (1) C "kinds" (spTKinds Γ.K C) := by
  refine dfn.pr sc_T_kinds (fun vs H Q E h => ?_) (fun f cdv A outer s H vs Q E hg h => ?_)
  · obtain ⟨A, B, rfl, _⟩ := h
    rfl
  obtain ⟨A, B, rfl, ht, q⟩ := h
  have nd := sc_T_kinds.nd
  obtain v0 := nm_T_kinds
  refine ⟨_, (pss_one (ps_ret (pe_at (WA.ok hg) (ps 0 v0)))), ?_⟩
  refine st_start (σ := [some _]) rfl ?_
  walk_at "dn"
  exact L.so ht q
abbrev s_T_len : Stmt := inClass (topS 17) 2
abbrev n_T_len : List Str := ["self"]
theorem sc_T_len : FnScope n_T_len ["self"] (defScope s_T_len) := ⟨rfl, rfl, rfl, by decide +kernel, rfl, by decide +kernel, by decide +kernel⟩
theorem nm_T_len : nvB n_T_len (defScope s_T_len) 0 "self" = true ∧ gvB (defScope s_T_len) "len" = true := by decide +kernel
theorem cl_T_len {Γ : Gm} {C : Addr} (dfn : DfM Γ C "__len__" "Table.__len__" s_T_len ["self"]) (T : Names Γ) (L : KT Γ C) : Mt Γ CX0 (1) C "__len__" (spTLen Γ.K C) [] := by
  refine dfn.mt sc_T_len (fun vs H Q E h => ?_) (fun f cdv A outer s H vs Q E hg h => ?_)
  · obtain ⟨A, B, rfl, _⟩ := h
    rfl
  obtain ⟨A, B, rfl, ht, q⟩ := h
  have nd := sc_T_len.nd
  obtain ⟨v0, g_len⟩ := nm_T_len
  refine ⟨_, (pss_one (ps_ret (pcb (k_len hg) g_len T.n_len bt_len (pa_cons (pe_at (WA.ok hg) (ps 0 v0)) pa_nil)))), ?_⟩
  refine st_start (σ := [some _]) rfl ?_
  walk_at "dn"
  obtain ⟨ts, h1, h2⟩ := ht.fa
  refine L.fa ht (wc_len_l (SqL.of h1) ?_)
  rw [List.length_map, h2.len]
  exact q
abbrev s_T_cont : Stmt := inClass (topS 17) 3
abbrev n_T_cont : List Str := ["self", "row"]
theorem sc_T_cont : FnScope n_T_cont ["self", "row"] (defScope s_T_cont) := ⟨rfl, rfl, rfl, by decide +kernel, rfl, by decide +kernel, by decide +kernel⟩
theorem nm_T_cont : nvB n_T_cont (defScope s_T_cont) 0 "self" = true ∧ nvB n_T_cont (defScope s_T_cont) 1 "row" = true ∧ gvB (defScope s_T_cont) "is_number" = true ∧ gvB (defScope s_T_cont) "len" = true := by decide +kernel
theorem cl_T_cont {Γ : Gm} {C : Addr} (dfn : DfM Γ C "__contains__" "Table.__contains__" s_T_cont ["self", "row"]) (T : Names Γ) (L : KT Γ C) (c_is_number : Cl Γ CX0 1 "is_number" spIsNum2 []) : Mt Γ CX0 (2) C "__contains__" (spCont Γ.K C) [] := by
  refine dfn.mt sc_T_cont (fun vs H Q E h => ?_) (fun f cdv A outer s H vs Q E hg h => ?_)
  · obtain ⟨A, B, y, rfl, _⟩ := h
    rfl
  obtain ⟨A, B, y, rfl, ht, h⟩ := h
  have nd := sc_T_cont.nd
  obtain ⟨v0, v1, g_is_number, g_len⟩ := nm_T_cont
  refine ⟨_, (pss_one (ps_ret (pe_and2 hg (pcl c_is_number hg (by omega) g_is_number pass0 (pa_cons (ps 1 v1) pa_nil)) (pe_one (pe_ch (k_le hg) (k_lt hg) pe_int (ps 1 v1) (pcb (k_len hg) g_len T.n_len bt_len (pa_cons (pe_at (WA.ok hg) (ps 0 v0)) pa_nil))))))), ?_⟩
  refine st_start (σ := [some _, some _]) rfl ?_
  walk_at "dn"
  rcases h with ⟨i, rfl, q⟩ | ⟨h, q⟩
  · refine ⟨_, rfl, .inl ⟨i, rfl, ?_⟩⟩
    walk_at "di"
    obtain ⟨ts, h1, h2⟩ := ht.fa
    refine br_d (fun h0 => ?_) (fun h0 => ?_)
    · refine L.fa ht (wc_len_l (SqL.of h1) ?_)
      walk_at "di"
      rw [List.length_map, h2.len]
      rw [show decide (i < (B.rows.length : Int)) = decide (0 ≤ i ∧ i < (B.rows.length : Int)) from decide_eq_decide.mpr ⟨fun z => ⟨h0, z⟩, fun z => z.2⟩]
      exact q
    · rw [decide_eq_false (fun z => h0 z.1)] at q
      exact q
  · refine ⟨_, rfl, .inr ⟨h, ?_⟩⟩
    walk_at "di"
    exact q
abbrev s_T_needrow : Stmt := inClass (topS 17) 5
abbrev n_T_needrow : List Str := ["self", "row"]
theorem sc_T_needrow : FnScope n_T_needrow ["self", "row"] (defScope s_T_needrow) := ⟨rfl, rfl, rfl, by decide +kernel, rfl, by decide +kernel, by decide +kernel⟩
theorem nm_T_needrow : nvB n_T_needrow (defScope s_T_needrow) 0 "self" = true ∧ nvB n_T_needrow (defScope s_T_needrow) 1 "row" = true := by decide +kernel
theorem cl_T_needrow {Γ : Gm} {C : Addr} (dfn : DfM Γ C "need_row" "Table.need_row" s_T_needrow ["self", "row"]) (T : Names Γ) (L : KT Γ C) (m_cont : Mt Γ CX0 2 C "__contains__" (spCont Γ.K C) []) : Mt Γ CX0 (3) C "need_row" (spNeedRow Γ.K C) [] := by
  refine dfn.mt sc_T_needrow (fun vs H Q E h => ?_) (fun f cdv A outer s H vs Q E hg h => ?_)
  · obtain ⟨A, B, i, rfl, _⟩ := h
    rfl
  obtain ⟨A, B, i, rfl, ht, hi, q⟩ := h
  have nd := sc_T_needrow.nd
  obtain ⟨v0, v1⟩ := nm_T_needrow
  refine ⟨_, (pss_one (ps_ifB (pt_cm (WO.ok hg) (ps 1 v1) (ps 0 v0) (by with_unfolding_all rfl))
    (pss_one ps_never)
    pss_nil)), ?_⟩
  refine st_start (σ := [some _, some _]) rfl ?_
  walk_at "dn"
  refine wo_niO (E := E0) m_cont (by omega) ht.ins ⟨A, B, _, rfl, ht, .inl ⟨i, rfl, _, rfl, ?_⟩⟩
  rw [decide_eq_true (show (0 : Int) ≤ i ∧ (i : Int) < B.rows.length by omega)]
  walk_at "di"
  exact q
abbrev s_T_get : Stmt := inClass (topS 17) 15
abbrev n_T_get : List Str := ["self", "row"]
theorem sc_T_get : FnScope n_T_get ["self", "row"] (defScope s_T_get) := ⟨rfl, rfl, rfl, by decide +kernel, rfl, by decide +kernel, by decide +kernel⟩
theorem nm_T_get : nvB n_T_get (defScope s_T_get) 0 "self" = true ∧ nvB n_T_get (defScope s_T_get) 1 "row" = true := by decide +kernel
theorem cl_T_get {Γ : Gm} {C : Addr} (dfn : DfM Γ C "__getitem__" "Table.__getitem__" s_T_get ["self", "row"]) (T : Names Γ) (L : KT Γ C) (m_needrow : Mt Γ CX0 3 C "need_row" (spNeedRow Γ.K C) []) : Mt Γ CX0 (5) C "__getitem__" (spTGet Γ.K C) [] := by
  refine dfn.mt sc_T_get (fun vs H Q E h => ?_) (fun f cdv A outer s H vs Q E hg h => ?_)
  · obtain ⟨A, B, i, r, rfl, _⟩ := h
    rfl
  obtain ⟨A, B, i, r, rfl, ht, hr, q⟩ := h
  have nd := sc_T_get.nd
  obtain ⟨v0, v1⟩ := nm_T_get
  refine ⟨_, (pss_cons (ps_expr (pe_mw hg (ps 0 v0) (pa_cons (ps 1 v1) pa_nil)))
    (pss_one (ps_ret (pe_ix (WX.ok hg) (pe_at (WA.ok hg) (ps 0 v0)) (ps 1 v1) (fun _ _ => rfl))))), ?_⟩
  refine st_start (σ := [some _, some _]) rfl ?_
  walk_at "dn"
  have hi := (List.getElem?_eq_some_iff.mp hr).1
  refine ⟨3, C, A.a, A.dx, A.fs, spNeedRow Γ.K C, [], E0, ⟨m_needrow.ex⟩, by omega, rfl, ht.ins, by rfl, A, B, i, rfl, ht, hi, ?_⟩
  walk_at "di"
  exact L.nu ht (wx_l (SqL.of ht.nu) (v := .int r.2) (at_nat (by rw [List.getElem?_map, hr]; rfl)) q)
abbrev s_T_set : Stmt := inClass (topS 17) 16
abbrev n_T_set : List Str := ["self", "row", "x"]
theorem sc_T_set : FnScope n_T_set ["self", "row", "x"] (defScope s_T_set) := ⟨rfl, rfl, rfl, by decide +kernel, rfl, by decide +kernel, by decide +kernel⟩
theorem nm_T_set : nvB n_T_set (defScope s_T_set) 0 "self" = true ∧ nvB n_T_set (defScope s_T_set) 1 "row" = true ∧ nvB n_T_set (defScope s_T_set) 2 "x" = true := by decide +kernel
theorem cl_T_set {Γ : Gm} {C : Addr} (dfn : DfM Γ C "__setitem__" "Table.__setitem__" s_T_set ["self", "row", "x"]) (T : Names Γ) (L : KT Γ C) (m_needrow : Mt Γ CX0 3 C "need_row" (spNeedRow Γ.K C) []) : Mt Γ CX0 (5) C "__setitem__" (spTSet Γ.K C) [] := by
  refine dfn.mt sc_T_set (fun vs H Q E h => ?_) (fun f cdv A outer s H vs Q E hg h => ?_)
  · obtain ⟨A, B, i, x, r, rfl, _⟩ := h
    rfl
  obtain ⟨A, B, i, x, r, rfl, ht, hr, q⟩ := h
  have nd := sc_T_set.nd
  obtain ⟨v0, v1, v2⟩ := nm_T_set
  refine ⟨_, (pss_cons (ps_expr (pe_mw hg (ps 0 v0) (pa_cons (ps 1 v1) pa_nil)))
    (pss_one (ps_asg (ps 2 v2) (pg_sub (pe_at (WA.ok hg) (ps 0 v0)) (ps 1 v1) (WP.ok hg))))), ?_⟩
  refine st_start (σ := [some _, some _, some _]) rfl ?_
  walk_at "dn"
  have hi := (List.getElem?_eq_some_iff.mp hr).1
  refine ⟨3, C, A.a, A.dx, A.fs, spNeedRow Γ.K C, [], E0, ⟨m_needrow.ex⟩, by omega, rfl, ht.ins, by rfl, A, B, i, rfl, ht, hi, ?_⟩
  walk_at "di"
  refine L.nu ht (wp_l ht.nu (j := i) (ixN_n (by rw [List.length_map]; exact hi)) ?_)
  have e : (B.rows.map fun r => V.int r.2).set i (.int x) = (B.rows.set i (r.1, x)).map fun r => V.int r.2 := by rw [List.map_set]
  rw [e]
  refine q _ (Fr.upd (.tail _ (.tail _ (.tail _ (.head _))))) (ht.setN ?_)
  rw [List.map_set]
  refine List.set_getElem?_self' ?_
  rw [List.getElem?_map, hr]; rfl
abbrev s_T_put : Stmt := inClass (topS 17) 6
abbrev n_T_put : List Str := ["self", "x", "marks", "mark"]
theorem sc_T_put : FnScope n_T_put ["self", "x", "marks"] (defScope s_T_put) := ⟨rfl, rfl, rfl, by decide +kernel, rfl, by decide +kernel, by decide +kernel⟩
theorem nm_T_put : nvB n_T_put (defScope s_T_put) 0 "self" = true ∧ nvB n_T_put (defScope s_T_put) 1 "x" = true ∧ nvB n_T_put (defScope s_T_put) 2 "marks" = true ∧ nvB n_T_put (defScope s_T_put) 3 "mark" = true ∧ lvB n_T_put (defScope s_T_put) 3 "mark" = true ∧ gvB (defScope s_T_put) "is_name" = true ∧ gvB (defScope s_T_put) "len" = true ∧ gvB (defScope s_T_put) "set" = true ∧ gvB (defScope s_T_put) "sorted" = true ∧ gvB (defScope s_T_put) "tuple" = true := by decide +kernel
theorem bd_T_put {Γ : Gm} {C : Addr} (T : Names Γ) (L : KT Γ C) (c_is_name : Cl Γ CX0 1 "is_name" spIsName []) (f : Addr) (cdv : Value) (A : Around) (outer : List Env) (s : Shared) (H : Hp) (vs : List V) (Q : VK) (E : XK) (hg : Good (Γ.at (1)) (cxOf CX0 Γ.P Γ.w Γ.K Γ.mg Γ.base n_T_put "Table.put" (defScope s_T_put) f cdv A outer s H E).nox) (h : (spPut Γ.K C) vs H Q E) :
    ∃ t, PSs (cxOf CX0 Γ.P Γ.w Γ.K Γ.mg Γ.base n_T_put "Table.put" (defScope s_T_put) f cdv A outer s H E).nox (defBody s_T_put) t ∧ t { nx := fun _ H' => Q .non H', rt := Q } (L2.start n_T_put vs) H := by
  obtain ⟨A, B, x, p, ms, rfl, ht, hp, nm, lm, lr, q⟩ := h
  have nd := sc_T_put.nd
  obtain ⟨v0, v1, v2, v3, l3, g_is_name, g_len, g_set, g_sorted, g_tuple⟩ := nm_T_put
  refine ⟨_, (pss_cons (ps_for PassesOwn.never rfl (pi_t hg (ps 2 v2)) (pgn (i := 3) nd l3)
    (pss_one (ps_ifB (pt_not (pt_tr hg (pcl c_is_name hg (by omega) g_is_name pass0 (pa_cons (ps 3 v3) pa_nil))))
    (pss_one ps_never)
    pss_nil)))
    (pss_cons (ps_expr (pe_bmK hg PySem.F.plainAttrs_list PySem.F.slot_list_append PySem.F.type_list_append mt_append (pe_at (WA.ok hg) (ps 0 v0)) (pa_cons (pct (WC.ok hg) g_tuple T.n_tuple bt_tuple (pa_cons (pcb (WC.ok hg) g_sorted T.n_sorted bt_sorted (pa_cons (pct (WC.ok hg) g_set T.n_set bt_set (pa_cons (ps 2 v2) pa_nil)) pa_nil)) pa_nil)) pa_nil)))
    (pss_cons (ps_expr (pe_bmK hg PySem.F.plainAttrs_list PySem.F.slot_list_append PySem.F.type_list_append mt_append (pe_at (WA.ok hg) (ps 0 v0)) (pa_cons (ps 1 v1) pa_nil)))
    (pss_one (ps_ret (pe_op (k_sub hg) (pcb (k_len hg) g_len T.n_len bt_len (pa_cons (pe_at (WA.ok hg) (ps 0 v0)) pa_nil)) pe_int)))))), ?_⟩
  refine st_start (σ := [some _, some _, some _, none]) rfl ?_
  walk_at "dn"
  refine ⟨p, rfl, ⟨_, hp⟩, ?_⟩
  refine lp_tup (xs := ms.map V.str) (fun i σ H' => ∃ c, σ = [some (.ref A.a), some (.int x), some (.ref p), c] ∧ Same H H') ⟨none, rfl, Same.refl _⟩ (fun i σ H' _ ⟨_, _, s⟩ => (Fr.of (S := []) s).sqt hp List.not_mem_nil) ?_ ?_
  · rintro i y σ H1 hx ⟨c, rfl, s1⟩
    rw [List.getElem?_map] at hx
    obtain ⟨z, hz1, rfl⟩ := Option.map_eq_some_iff.mp hx
    walk_at "dn"
    refine ⟨z, rfl, nm z (List.mem_of_getElem? hz1), fun H2 s2 => ?_⟩
    walk_at "di"
    exact ⟨_, rfl, s1.trans s2⟩
  · rintro σ H1 ⟨c, rfl, s1⟩
    walk_at "dn"
    have ht1 := ht.same s1
    have hp1 : SqT Γ.K H1 p (ms.map V.str) := (Fr.of (S := []) s1).sqt hp List.not_mem_nil
    obtain ⟨ts, h1, h2⟩ := ht1.fa
    refine L.fa ht1 ?_
    refine ⟨ty_l (SqL.of h1), ?_⟩
    refine wc_setT hp1 (by omega) fun a ha => ?_
    have hml := metS_len (l := ms.reverse)
    rw [List.length_reverse] at hml
    refine wc_sortSet upd_same (by omega) fun ys p2 hperm hsort hp2 => ?_
    refine wc_tup (SqL.of upd_same) fun p3 hp3 => ?_
    have sm := (Same.mk (o := SetSO Γ.P Γ.w a (metS ms.reverse)) ha).trans ((Same.mk (o := .lst (ys.map V.str)) hp2).trans (Same.mk (o := .tup (ys.map V.str)) hp3))
    have ht2 := ht1.same sm
    have hmem : ∀ z, z ∈ ys ↔ z ∈ ms := fun z => by rw [hperm.mem_iff, metS_mem, List.mem_reverse]
    refine ⟨A.pf, ts.map V.ref, .ref p3, rfl, rfl, sm _ _ h1, lt_size (by rw [List.length_map, h2.len]; omega), ?_⟩
    walk_at "di"
    have az : Asc ys := ⟨sorted_pw hsort, hperm.nodup_iff.mpr metS_nodup, fun z hz => (nm z ((hmem z).mp hz)).ok⟩
    have h2' : Mks Γ.K _ ts B.rows := h2.loc (MC := fun _ => False) (fun a o e _ => sm a o e)
    have ht3 := ht2.put (x := x) (sm _ _ h1) h2' (SqT.of upd_same) az
    obtain ⟨m1, m2, m3, m4, m5⟩ := nd_pm ht.nd
    have na : ∀ {o : HO}, H A.a = some o → A.a ≠ A.pf := fun e z => by have := ht1.ins; rw [z, h1] at this; cases this
    have nb : A.a ≠ A.pm := fun z => by have := ht1.ins; rw [z, ht1.nu] at this; cases this
    refine wa_fld (Γ := Γ.at _) L.k.cls L.n5 (by rw [upd_ne (na ht.ins)]; exact ht2.ins) (by rfl) ?_
    refine ⟨ty_l (SqL.of (by rw [upd_ne m3]; exact ht2.nu)), ?_⟩
    refine ⟨A.pm, B.rows.map (fun r => V.int r.2), .int x, rfl, rfl, by rw [upd_ne m3]; exact ht2.nu, lt_size (by rw [List.length_map]; omega), ?_⟩
    walk_at "di"
    refine L.fa ht3 ?_
    obtain ⟨ts3, h3, h4⟩ := ht3.fa
    refine wc_len_l (SqL.of h3) ?_
    walk_at "di"
    rw [List.length_map, h4.len]
    have hf : Fr A.fp H (upd (upd (upd (upd (upd H1 a (SetSO Γ.P Γ.w a (metS ms.reverse))) p2 (.lst (ys.map V.str))) p3 (.tup (ys.map V.str))) A.pf (.lst (ts.map V.ref ++ [.ref p3]))) A.pm (.lst (B.rows.map (fun r => V.int r.2) ++ [.int x]))) :=
      ((Fr.of (s1.trans sm)).trans (Fr.upd (.tail _ (.tail _ (.head _))))).trans (Fr.upd (.tail _ (.tail _ (.tail _ (.head _)))))
    have e : ((({ B with rows := B.rows ++ [(ys, x)] } : Tb).rows.length : Nat) : Int) - 1 = (B.rows.length : Int) := by
      show ((B.rows ++ [(ys, x)]).length : Int) - 1 = _
      rw [List.length_append, List.length_singleton]; omega
    rw [e]
    exact q ys _ az hmem hf ht3
abbrev s_T_mark : Stmt := inClass (topS 17) 12
abbrev n_T_mark : List Str := ["self", "row", "name"]
theorem sc_T_mark : FnScope n_T_mark ["self", "row", "name"] (defScope s_T_mark) := ⟨rfl, rfl, rfl, by decide +kernel, rfl, by decide +kernel, by decide +kernel⟩
theorem nm_T_mark : nvB n_T_mark (defScope s_T_mark) 0 "self" = true ∧ nvB n_T_mark (defScope s_T_mark) 1 "row" = true ∧ nvB n_T_mark (defScope s_T_mark) 2 "name" = true ∧ gvB (defScope s_T_mark) "is_name" = true ∧ gvB (defScope s_T_mark) "sorted" = true ∧ gvB (defScope s_T_mark) "tuple" = true := by decide +kernel
theorem cl_T_mark {Γ : Gm} {C : Addr} (dfn : DfM Γ C "mark" "Table.mark" s_T_mark ["self", "row", "name"]) (T : Names Γ) (L : KT Γ C) (m_needrow : Mt Γ CX0 3 C "need_row" (spNeedRow Γ.K C) []) (c_is_name : Cl Γ CX0 1 "is_name" spIsName []) : Mt Γ CX0 (5) C "mark" (spMark Γ.K C) [] := by
  refine dfn.mt sc_T_mark (fun vs H Q E h => ?_) (fun f cdv A outer s H vs Q E hg h => ?_)
  · obtain ⟨A, B, i, nm, r, rfl, _⟩ := h
    rfl
  obtain ⟨A, B, i, nm, r, rfl, ht, hr, hn, lr, q⟩ := h
  have nd := sc_T_mark.nd
  obtain ⟨v0, v1, v2, g_is_name, g_sorted, g_tuple⟩ := nm_T_mark
  refine ⟨_, (pss_cons (ps_expr (pe_mw hg (ps 0 v0) (pa_cons (ps 1 v1) pa_nil)))
    (pss_cons (ps_ifB (pt_not (pt_tr hg (pcl c_is_name hg (by omega) g_is_name pass0 (pa_cons (ps 2 v2) pa_nil))))
    (pss_one ps_never)
    pss_nil)
    (pss_one (ps_ifB (pt_cm (WO.ok hg) (ps 2 v2) (pe_ix (WX.ok hg) (pe_at (WA.ok hg) (ps 0 v0)) (ps 1 v1) (fun _ _ => rfl)) (by with_unfolding_all rfl))
    (pss_one (ps_asg (pct (WC.ok hg) g_tuple T.n_tuple bt_tuple (pa_cons (pcb (WC.ok hg) g_sorted T.n_sorted bt_sorted (pa_cons (pe_lst (StX.pa_star (pe_ix (WX.ok hg) (pe_at (WA.ok hg) (ps 0 v0)) (ps 1 v1) (fun _ _ => rfl)) (pa_cons (ps 2 v2) pa_nil))) pa_nil)) pa_nil)) (pg_sub (pe_at (WA.ok hg) (ps 0 v0)) (ps 1 v1) (WP.ok hg))))
    pss_nil)))), ?_⟩
  refine st_start (σ := [some _, some _, some _]) rfl ?_
  walk_at "dn"
  have hi := (List.getElem?_eq_some_iff.mp hr).1
  have ar := ht.ra r (List.mem_of_getElem? hr)
  refine ⟨3, C, A.a, A.dx, A.fs, spNeedRow Γ.K C, [], E0, ⟨m_needrow.ex⟩, by omega, rfl, ht.ins, by rfl, A, B, i, rfl, ht, hi, ?_⟩
  walk_at "di"
  refine ⟨nm, rfl, hn, fun H1 s1 => ?_⟩
  walk_at "di"
  have ht1 := ht.same s1
  obtain ⟨ts, h1, h2⟩ := ht1.fa
  obtain ⟨t, e, hsq⟩ := h2.get hr
  have hts : (ts.map V.ref)[i]? = some (V.ref t) := by rw [List.getElem?_map, e]; rfl
  refine L.fa ht1 (wx_l (SqL.of h1) (v := .ref t) (at_nat hts) ?_)
  refine wo_niS (.inr hsq) ?_
  walk_at "di"
  by_cases hin : nm ∈ r.1
  · refine br_nt hin (q r.1 H1 ar (fun z => ⟨.inl, fun h => h.elim id fun h => by rw [h]; exact hin⟩) (Fr.of s1) ?_)
    have e2 : B.rows.set i (r.1, r.2) = B.rows := List.set_getElem?_self' hr
    rw [e2]
    exact ht1
  · refine br_nf hin ?_
    refine L.fa ht1 (wx_l (SqL.of h1) (v := .ref t) (at_nat hts) ?_)
    refine ⟨t, r.1.map V.str, rfl, .inl hsq, ?_⟩
    walk_at "di"
    refine ⟨szl (by simp only [List.length_append, List.length_map, List.length_cons, List.length_nil]; omega), fun pl hpl => ?_⟩
    have hcat : r.1.map V.str ++ [V.str nm] = (r.1 ++ [nm]).map V.str := by rw [List.map_append]; rfl
    rw [hcat]
    refine wc_sortS (SqL.of upd_same) (by rw [List.length_append, List.length_singleton]; omega) fun ys p2 hperm hsort hp2 => ?_
    refine wc_tup (SqL.of upd_same) fun p3 hp3 => ?_
    have sm := (Same.mk (o := .lst ((r.1 ++ [nm]).map V.str)) hpl).trans ((Same.mk (o := .lst (ys.map V.str)) hp2).trans (Same.mk (o := .tup (ys.map V.str)) hp3))
    have ht2 := ht1.same sm
    refine L.fa ht2 ?_
    refine wp_l (sm _ _ h1) (j := i) (ixN_n (by rw [List.length_map, h2.len]; exact hi)) ?_
    have az : Asc ys := ⟨sorted_pw hsort, hperm.nodup_iff.mpr (List.nodup_append.mpr ⟨ar.nd, List.nodup_cons.mpr ⟨List.not_mem_nil, .nil⟩, fun u hu v hv z => hin (by rw [List.mem_singleton.mp hv] at z; rw [← z]; exact hu)⟩), fun z hz => by
      rcases List.mem_append.mp (hperm.mem_iff.mp hz) with h | h
      · exact ar.ok z h
      · rw [List.mem_singleton.mp h]; exact hn.ok⟩
    have h2' : Mks Γ.K _ ts B.rows := h2.loc (MC := fun _ => False) (fun a o e _ => sm a o e)
    have ht3 := ht2.setF (rows' := B.rows.set i (ys, r.2)) (h2'.set (SqT.of upd_same)) (by
      rw [List.map_set]
      exact List.set_getElem?_self' (by rw [List.getElem?_map, hr]; rfl)) (fun r' hr' => by
      rcases List.mem_or_eq_of_mem_set hr' with h | h
      · exact ht.ra r' h
      · rw [h]; exact az)
    rw [List.map_set] at ht3
    refine q ys _ az (fun z => ?_) ((Fr.of (s1.trans sm)).trans (Fr.upd (.tail _ (.tail _ (.head _))))) ht3
    rw [hperm.mem_iff, List.mem_append, List.mem_singleton]
abbrev Lk := Str × Nat × Nat
def lkD (e : Lk) : PyData := .tuple [.str e.1, .int (e.2.1 : Nat), .int (e.2.2 : Nat)]
def lkLe : Lk → Lk → Bool := PySem.W.dataLe false lkD
def lkI (e : Lk) : List V := [.str e.1, .int (e.2.1 : Nat), .int (e.2.2 : Nat)]
def lksOf (k : Str) (m : Mp) : List Lk := m.map fun e => (k, e.1, e.2)
def lksAll (ks : List Str) (nx : List Mp) : List Lk := ((ks.zip nx).map fun e => lksOf e.1 e.2).flatten
def Tb'.links (B : Tb) : List Lk := lksAll B.ks B.nx
/-- rows as pairs -/
structure RwP (K : PySem.W.Frag) (H : Hp) (ts : List Addr) (rows : List (List Str × Int)) : Prop where
  len : ts.length = rows.length
  at_ : ∀ (i : Nat) (t : Addr) (r : List Str × Int), ts[i]? = some t → rows[i]? = some r → ∃ m, SqT K H t [.ref m, .int r.2] ∧ SqT K H m (r.1.map V.str)
def spView (K : PySem.W.Frag) (C : Addr) : Sp := fun vs H Q _ => ∃ (A : TAd) (B : Tb), vs = [.ref A.a] ∧ TbP K C A B H ∧ B.rows.length < 10000 ∧ (lksAll B.ks B.nx).length < 10000 ∧
  ∀ (p pr pl : Addr) (rts : List Addr) (zs : List (Addr × Lk)) H', Same H H' → SqT K H' p [.ref A.ps, .ref pr, .ref pl] → SqT K H' pr (rts.map V.ref) → RwP K H' rts B.rows → SqT K H' pl (zs.map fun z => V.ref z.1) → (∀ z ∈ zs, SqT K H' z.1 (lkI z.2)) → zs.map (·.2) = (lksAll B.ks B.nx).mergeSort lkLe → Q (.ref p) H'
theorem kdK_len {ks : List Str} {qs : List Addr} {nx : List Mp} : (ks.zip nx).length = min ks.length nx.length := List.length_zip
theorem lksAll_take {ks : List Str} {nx : List Mp} {i : Nat} {k : Str} {m : Mp} (h1 : ks[i]? = some k) (h2 : nx[i]? = some m) : ((((ks.zip nx).take (i + 1)).map fun e => lksOf e.1 e.2).flatten) = ((((ks.zip nx).take i).map fun e => lksOf e.1 e.2).flatten) ++ lksOf k m := by
  have e : (ks.zip nx)[i]? = some (k, m) := by rw [List.getElem?_zip_eq_some]; exact ⟨h1, h2⟩
  rw [List.take_add_one, e]
  simp
theorem lksAll_le {ks : List Str} {nx : List Mp} (i : Nat) : ((((ks.zip nx).take i).map fun e => lksOf e.1 e.2).flatten).length ≤ (lksAll ks nx).length := by
  unfold lksAll
  have h : (ks.zip nx).map (fun e => lksOf e.1 e.2) = ((ks.zip nx).take i).map (fun e => lksOf e.1 e.2) ++ ((ks.zip nx).drop i).map (fun e => lksOf e.1 e.2) := by rw [← List.map_append, List.take_append_drop]
  rw [h, List.flatten_append, List.length_append]
  omega
theorem valK {ks : List Str} {qs : List Addr} {i : Nat} {k : Str} {q : Addr} (nd : ks.Nodup) (h1 : ks[i]? = some k) (h2 : qs[i]? = some q) : valV (kdK ks qs) (Sum.inr k) = some (.ref q) := by
  induction ks generalizing qs i with
  | nil => simp at h1
  | cons k0 ks ih =>
    cases qs with
    | nil => simp at h2
    | cons q0 qs =>
      cases i with
      | zero =>
        obtain rfl : k0 = k := by simpa using h1
        obtain rfl : q0 = q := by simpa using h2
        exact valV_pos rfl
      | succ i =>
        have n := List.nodup_cons.mp nd
        have h1' : ks[i]? = some k := h1
        have hn : ¬ (Sum.inr k0 : Key) = Sum.inr k := fun e => n.1 (by injection e with e; rw [e]; exact List.mem_of_getElem? h1')
        show valV ((Sum.inr k0, V.ref q0) :: kdK ks qs) (Sum.inr k) = _
        rw [valV_neg hn]
        exact ih n.2 h1' h2
abbrev s_T_view : Stmt := inClass (topS 17) 21
abbrev n_T_view : List Str := ["self", "links", "rows", "kind", "row", "other"]
theorem sc_T_view : FnScope n_T_view ["self"] (defScope s_T_view) := ⟨rfl, rfl, rfl, by decide +kernel, rfl, by decide +kernel, by decide +kernel⟩
theorem nm_T_view : nvB n_T_view (defScope s_T_view) 0 "self" = true ∧ nvB n_T_view (defScope s_T_view) 1 "links" = true ∧ nvB n_T_view (defScope s_T_view) 2 "rows" = true ∧ gvB (defScope s_T_view) "len" = true ∧ gvB (defScope s_T_view) "range" = true ∧ gvB (defScope s_T_view) "sorted" = true ∧ gvB (defScope s_T_view) "tuple" = true := by decide +kernel
theorem cl_T_view {Γ : Gm} {C : Addr} (dfn : DfM Γ C "view" "Table.view" s_T_view ["self"]) (T : Names Γ) (L : KT Γ C) : Mt Γ CX0 (1) C "view" (spView Γ.K C) [] := by
  refine dfn.mt sc_T_view (fun vs H Q E h => ?_) (fun f cdv A outer s H vs Q E hg h => ?_)
  · obtain ⟨A, B, rfl, _⟩ := h
    rfl
  obtain ⟨A, B, rfl, ht, lr, ll, q⟩ := h
  have nd := sc_T_view.nd
  obtain ⟨v0, v1, v2, g_len, g_range, g_sorted, g_tuple⟩ := nm_T_view
  refine ⟨_, (C8.pss_cut (ps_locks (ps_setLc2 (i := 1) (own := [("kind", 3), ("row", 4), ("other", 5)]) (vs1 := [4, 5]) rfl nd rfl rfl (sw_true rfl rfl rfl (by decide +kernel)) (pi_t hg (pe_at (WA.ok hg) (ps 0 v0))) (blkOk_by (N := n_T_view) (sc := defScope s_T_view) (by decide +kernel)) (by decide) (fun _ _ _ _ _ => (pg_name (i := 3) nd rfl (by first | exact .inl rfl | exact .inr rfl))) (fun _ _ _ _ _ => pts_nil) (fun _ _ _ _ _ => (pi_items (pe_ix (WX.ok hg.blk) (pe_at (WA.ok hg.blk) (psr 0)) (psr 3) (fun _ _ => rfl)))) (fun _ _ _ _ _ => (pg_tK hg.blk 2 rfl (pgs_c (pg_name (i := 4) nd rfl (by first | exact .inl rfl | exact .inr rfl)) (pgs_c (pg_name (i := 5) nd rfl (by first | exact .inl rfl | exact .inr rfl)) pgs_0)))) (fun _ _ _ _ _ => pts_nil) (fun _ _ _ _ _ => (pe_tup (pa_cons (psr 3) (pa_cons (psr 4) (pa_cons (psr 5) pa_nil)))))))
    (C8.pss_cut (ps_setLc (i := 2) (own := [("row", 4)]) rfl nd rfl rfl (sw_true rfl rfl rfl (by decide +kernel)) (pi_r1 g_range T.n_range (pa_cons (pcb (k_len hg) g_len T.n_len bt_len (pa_cons (pe_at (WA.ok hg) (ps 0 v0)) pa_nil)) pa_nil)) (blkOk_by (N := n_T_view) (sc := defScope s_T_view) (by decide +kernel)) (fun _ _ _ _ _ => (pg_name (i := 4) nd rfl (by first | exact .inl rfl | exact .inr rfl))) (fun _ _ _ _ _ => pts_nil) (fun _ _ _ _ _ => (pe_tup (pa_cons (pe_ix (WX.ok hg.blk) (pe_at (WA.ok hg.blk) (psr 0)) (psr 4) (fun _ _ => rfl)) (pa_cons (pe_ix (WX.ok hg.blk) (pe_at (WA.ok hg.blk) (psr 0)) (psr 4) (fun _ _ => rfl)) pa_nil)))))
    (pss_one (ps_ret (pe_tup (pa_cons (pe_at (WA.ok hg) (ps 0 v0)) (pa_cons (pct (WC.ok hg) g_tuple T.n_tuple bt_tuple (pa_cons (ps 2 v2) pa_nil)) (pa_cons (pct (WC.ok hg) g_tuple T.n_tuple bt_tuple (pa_cons (pcb (WC.ok hg) g_sorted T.n_sorted bt_sorted (pa_cons (ps 1 v1) pa_nil)) pa_nil)) pa_nil)))))))), ?_⟩
  refine st_start (σ := [some _, none, none, none, none, none]) rfl ?_
  walk_at "dn"
  have nq : A.qs.Nodup := by
    have := ht.nd
    simp only [TAd.fp, List.nodup_cons] at this
    exact (List.nodup_append.mp this.2.2.2.2).1
  have nqi : ∀ {a : Addr} {o : HO}, H a = some o → Imm (fun _ => False) o → a ∉ A.qs := fun e i z => ht.ne e i (.tail _ (.tail _ (.tail _ (.tail _ (List.mem_append_left _ z)))))
  refine ⟨fun σ' H1 => ∃ (D : Addr) (zs : List (Addr × Lk)), σ' = [some (.ref A.a), some (.ref D), none, none, none, none] ∧ Same H H1 ∧ H1 D = some (.lst (zs.map fun z => V.ref z.1)) ∧ (∀ z ∈ zs, SqT Γ.K H1 z.1 (lkI z.2)) ∧ zs.map (·.2) = lksAll B.ks B.nx, ?_, ?_⟩
  · refine ⟨A.qs.length, locks_go A.qs B.nx H ht.qd nq fun HL D' hl hk hd => ?_⟩
    have hLs : ∀ a o, H a = some o → a ∈ ([] : List Addr) ∨ Imm (fun _ => False) o → HL a = some o := fun a o e i => by rw [hk a (nqi e (i.resolve_left List.not_mem_nil))]; exact e
    have hins : HL A.a = some (.ins C A.dx A.fs) := hLs _ _ ht.ins (.inr (fun z => z))
    have hso : SqT Γ.K HL A.ps (B.ks.map V.str) := sqt_loc hLs ht.so
    have hpn : HL A.pn = some (.dK (kdK B.ks A.qs)) := by
      rw [hk A.pn (fun z => by
        have := ht.nd
        simp only [TAd.fp, List.nodup_cons, List.mem_cons, List.mem_append, not_or] at this
        exact this.1.2.2.2.1 z)]
      exact ht.nx
    show tLc2 _ _ _ _ _ _ _ _ _ _ HL _
    rw [tLc2_eq]
    refine wa_fld (Γ := Γ.at 0) L.k.cls L.n1 hins (by rfl) ⟨A.ps, rfl, ⟨_, hso⟩, fun D hD => ?_⟩
    refine lq2_it (walk_tup (xs := B.ks.map V.str)) (fun i H' => ∃ (F : List (PF (E1 Γ))) (zs : List (Addr × Lk)), SS (E := E1 Γ) HL [] H' F [lstR D (zs.map fun z => V.ref z.1)] ∧ (∀ z ∈ zs, tupF z.1 (lkI z.2) ∈ F ∧ HL z.1 = none) ∧ zs.map (·.2) = (((B.ks.zip B.nx).take i).map fun e => lksOf e.1 e.2).flatten)
      ⟨[], [], SS.start0.newC (o := .lst []) hD (fun z => z), (fun _ h => nomatch h), by simp⟩ (fun i H' _ ⟨F, zs, s, _⟩ => (Fr.of (S := []) s.fr.same).sqt hso List.not_mem_nil) ?_ ?_
    · rintro i x H1 H2 hi ⟨F, zs, s, hF, hz⟩ ⟨rfl, hx2⟩
      have hx3 : (B.ks.map V.str)[i]? = some x := hx2
      rw [List.getElem?_map] at hx3
      obtain ⟨k, hk1, rfl⟩ := Option.map_eq_some_iff.mp hx3
      have hi2 := (List.getElem?_eq_some_iff.mp hk1).1
      obtain ⟨m, hm⟩ : ∃ m, B.nx[i]? = some m := ⟨_, List.getElem?_eq_getElem (by rw [ht.kn]; exact hi2)⟩
      obtain ⟨qd, hq⟩ : ∃ q, A.qs[i]? = some q := ⟨_, List.getElem?_eq_getElem (by rw [ht.qd.len, ht.kn]; exact hi2)⟩
      obtain ⟨od, hod⟩ := hl i qd m hq hm
      have sm := s.fr.same
      walk_at "dn"
      refine ⟨rfl, ?_⟩
      refine wa_fld (Γ := Γ.at 0) L.k.cls L.n2 (sm _ _ hins) (by rfl) ?_
      refine wx_d (y := .str k) (v := .ref qd) (by have := DGet.k (k := Sum.inr k) (sm _ _ hpn); rw [valK ht.ka.nd hk1 hq] at this; exact this) ⟨qd, od, mpK m, rfl, sm _ _ hod, ?_⟩
      refine li_it walk_itemsF (fun j H' => ∃ (F : List (PF (E1 Γ))) (zs : List (Addr × Lk)), SS (E := E1 Γ) HL [] H' F [lstR D (zs.map fun z => V.ref z.1)] ∧ (∀ z ∈ zs, tupF z.1 (lkI z.2) ∈ F ∧ HL z.1 = none) ∧ zs.map (·.2) = (((B.ks.zip B.nx).take i).map fun e => lksOf e.1 e.2).flatten ++ lksOf k (m.take j))
        ⟨F, zs, s, hF, by rw [hz]; simp [lksOf]⟩ (fun j H' _ ⟨F, zs, s, _⟩ => s.fr.same _ _ hod) ?_ ?_
      · rintro j y H3 H4 hj ⟨F2, zs2, s2, hF2, hz2⟩ ⟨T2, kk, v, e1, rfl, hT2, rfl⟩
        unfold mpK at e1
        rw [List.getElem?_map] at e1
        obtain ⟨⟨a, b⟩, hab, e2⟩ := Option.map_eq_some_iff.mp e1
        obtain ⟨rfl, rfl⟩ := Prod.mk.inj e2
        have s3 := s2.newT (xs := [kV (Sum.inl (a : Int)), V.int b]) hT2
        refine gt_of (s3.tup (.head _)) rfl ?_
        walk_at "dn"
        refine ⟨rfl, szl (by simp only [List.length_cons, List.length_nil]; omega), fun p hp => ?_⟩
        have s4 := s3.newT (xs := lkI (k, a, b)) hp
        have hle := lksAll_le (ks := B.ks) (nx := B.nx) (i + 1)
        rw [lksAll_take hk1 hm] at hle
        have hl2 : zs2.length ≤ (lksAll B.ks B.nx).length := by
          have := congrArg List.length hz2
          rw [List.length_map, List.length_append] at this
          rw [List.length_append] at hle
          have h3 : (lksOf k (m.take j)).length ≤ (lksOf k m).length := by unfold lksOf; rw [List.length_map, List.length_map, List.length_take]; omega
          omega
        have hzm : (zs2.map fun z => V.ref z.1) ++ [V.ref p] = (zs2 ++ [(p, ((k, a, b) : Lk))]).map fun z => V.ref z.1 := by rw [List.map_append]; rfl
        refine ⟨_, s4.cell (.head _), lt_size (by rw [List.length_map]; omega), _, zs2 ++ [(p, (k, a, b))], by rw [← hzm]; exact s4.app, fun z hz' => ?_, ?_⟩
        · rcases List.mem_append.mp hz' with h | h
          · exact ⟨.tail _ (.tail _ (hF2 z h).1), (hF2 z h).2⟩
          · rw [List.mem_singleton.mp h]
            exact ⟨.head _, (s2.fr.same.trans (Same.mk hT2)).free hp⟩
        · rw [List.map_append, hz2, List.take_add_one, hab, List.append_assoc]
          congr 1
          unfold lksOf
          rw [List.map_append]
          rfl
      · rintro H3 ⟨F2, zs2, s2, hF2, hz2⟩
        refine ⟨F2, zs2, s2, hF2, ?_⟩
        rw [hz2, lksAll_take hk1 hm]
        congr 2
        unfold mpK
        rw [List.length_map, List.take_length]
    · rintro H1 ⟨F, zs, s, hF, hz⟩
      rw [List.length_map, show B.ks.length = (B.ks.zip B.nx).length from by rw [List.length_zip, ht.kn, Nat.min_self], List.take_length] at hz
      have sm := s.fr.same
      refine hd _ H1 sm fun H2 h1 h2 => ?_
      have hDq : D ∉ A.qs := fun z => by
        obtain ⟨i, hi, e⟩ := List.mem_iff_getElem.mp z
        have hlen := ht.qd.len
        obtain ⟨od, ho⟩ := hl i D B.nx[i] (by rw [List.getElem?_eq_getElem hi, e]) (List.getElem?_eq_getElem (by omega))
        rw [ho] at hD; cases hD
      refine ⟨D, zs, rfl, fun a o e => ?_, by rw [h1 D hDq]; exact s.cell (.head _), fun z hzm => ?_, hz⟩
      · by_cases ha : a ∈ A.qs
        · obtain ⟨i, hi, e2⟩ := List.mem_iff_getElem.mp ha
          have hlen := ht.qd.len
          have g1 := ht.qd.at_ i a B.nx[i] (by rw [List.getElem?_eq_getElem hi, e2]) (List.getElem?_eq_getElem (by omega))
          have g2 := h2.at_ i a B.nx[i] (by rw [List.getElem?_eq_getElem hi, e2]) (List.getElem?_eq_getElem (by omega))
          rw [g1] at e; cases e
          exact g2
        · rw [h1 a ha]
          refine sm a o ?_
          rw [hk a ha]; exact e
      · have hzq : z.1 ∉ A.qs := fun zz => by
          obtain ⟨i, hi, e⟩ := List.mem_iff_getElem.mp zz
          have hlen := ht.qd.len
          obtain ⟨od, ho⟩ := hl i z.1 B.nx[i] (by rw [List.getElem?_eq_getElem hi, e]) (List.getElem?_eq_getElem (by omega))
          have hn := (hF z hzm).2
          rw [ho] at hn; cases hn
        exact Fr.sqt (S0 := A.qs) (fun a o n e => by rw [h1 a n]; exact e) (s.tup (hF z hzm).1) hzq
  rintro σ' H1 ⟨D, zs, rfl, sm1, hD, hzs, hzl⟩
  have ht1 := ht.same sm1
  obtain ⟨ts, hf1, hf2⟩ := ht1.fa
  refine ⟨fun σ' H2 => ∃ (D2 : Addr) (rts : List Addr), σ' = [some (.ref A.a), some (.ref D), some (.ref D2), none, none, none] ∧ Same H1 H2 ∧ H2 D2 = some (.lst (rts.map V.ref)) ∧ RwP Γ.K H2 rts B.rows, ?_, ?_⟩
  · walk_at "dn"
    refine L.fa ht1 (wc_len_l (SqL.of hf1) ?_)
    walk_at "di"
    rw [List.length_map, hf2.len]
    refine ⟨_, rfl, by omega, by omega, fun D2 hD2 => ?_⟩
    refine lq_it walk_range (fun i acc H' => ∃ (F : List (PF (E1 Γ))) (rts : List Addr), SS (E := E1 Γ) H1 [] H' F [lstR D2 acc] ∧ acc = rts.map V.ref ∧ rts.length = i ∧ ∀ (j : Nat) (t : Addr) (r : List Str × Int), rts[j]? = some t → B.rows[j]? = some r → ∃ m, tupF t [.ref m, .int r.2] ∈ F ∧ SqT Γ.K H1 m (r.1.map V.str))
      ⟨[], [], SS.start0.newC (o := .lst []) hD2 (fun z => z), rfl, rfl, fun j t r h => by simp at h⟩ (fun _ _ _ _ _ => trivial) ?_ ?_
    · rintro i x acc H2 H3 hi hl2 ⟨F, rts, s, rfl, hlen, hF⟩ ⟨rfl, rfl⟩
      have hi2 : i < B.rows.length := by omega
      obtain ⟨r, hr⟩ : ∃ r, B.rows[i]? = some r := ⟨_, List.getElem?_eq_getElem hi2⟩
      obtain ⟨t, e, hsq⟩ := hf2.get hr
      have ht2 := ht1.same s.fr.same
      walk_at "dn"
      refine ⟨rfl, ?_⟩
      rw [show (0 : Int) + (i : Int) = (i : Int) from by omega]
      refine L.fa ht2 (wx_l (SqL.of (s.fr.same _ _ hf1)) (v := .ref t) (at_nat (by rw [List.getElem?_map, e]; rfl)) ?_)
      refine L.nu ht2 (wx_l (SqL.of ht2.nu) (v := .int r.2) (at_nat (by rw [List.getElem?_map, hr]; rfl)) ?_)
      refine ⟨szl (by simp only [List.length_cons, List.length_nil]; omega), fun p hp => ?_⟩
      have s2 := s.newT (xs := [.ref t, .int r.2]) hp
      refine lq_add s2 hl2 (lt_size (by omega)) ⟨_, lq_len hl2, _, rts ++ [p], s2.app, by rw [List.map_append]; rfl, by rw [List.length_append, hlen]; rfl, fun j t' r' h1 h2 => ?_⟩
      rcases Nat.lt_trichotomy j rts.length with h | h | h
      · rw [List.getElem?_append_left h] at h1
        obtain ⟨m, a, b⟩ := hF j t' r' h1 h2
        exact ⟨m, .tail _ a, b⟩
      · rw [h, List.getElem?_append_right (Nat.le_refl _)] at h1
        obtain rfl : p = t' := by simpa using h1
        rw [h, hlen, hr] at h2
        obtain rfl := Option.some.inj h2
        exact ⟨t, .head _, hsq⟩
      · rw [List.getElem?_append_right (by omega), List.getElem?_eq_none (by simp; omega)] at h1
        cases h1
    · rintro acc H2 hl2 ⟨F, rts, s, rfl, hlen, hF⟩
      refine ⟨D2, rts, rfl, s.fr.same, s.cell (.head _), by omega, fun j t r h1 h2 => ?_⟩
      obtain ⟨m, a, b⟩ := hF j t r h1 h2
      exact ⟨m, s.tup a, (Fr.of (S := []) s.fr.same).sqt b List.not_mem_nil⟩
  rintro σ' H2 ⟨D2, rts, rfl, sm2, hD2, hrw⟩
  walk_at "dn"
  have sm := sm1.trans sm2
  refine L.so (ht.same sm) ?_
  refine wc_tup (SqL.of hD2) fun pr hpr => ?_
  have hDn : upd H2 pr (.tup (rts.map V.ref)) D = some (.lst (zs.map fun z => V.ref z.1)) := Same.mk hpr _ _ (sm2 _ _ hD)
  have hzs2 : ∀ z ∈ zs, SqT Γ.K (upd H2 pr (.tup (rts.map V.ref))) z.1 (lkI z.2) := fun z hz => (Fr.of (S := []) (sm2.trans (Same.mk hpr))).sqt (hzs z hz) List.not_mem_nil
  refine wc_sortD (es := zs.map fun z => (V.ref z.1, lkD z.2)) (SqL.of (by rw [List.map_map]; exact hDn)) (fun e he => ?_) (fun d hd d' hd' => ?_) (.inl fun d hd => ?_) (fun e he => ?_) fun p2 hp2 => ?_
  · obtain ⟨z, hz, rfl⟩ := List.mem_map.mp he
    exact .tup (hzs2 z hz) (.cons (.str _) (.cons (.int _) (.cons (.int _) .nil)))
  · obtain ⟨e, he, rfl⟩ := List.mem_map.mp hd
    obtain ⟨e', he', rfl⟩ := List.mem_map.mp hd'
    obtain ⟨z, _, rfl⟩ := List.mem_map.mp he
    obtain ⟨z', _, rfl⟩ := List.mem_map.mp he'
    simp [lkD, PySem.W.alike, PySem.W.alikeAll]
  · obtain ⟨e, he, rfl⟩ := List.mem_map.mp hd
    obtain ⟨z, _, rfl⟩ := List.mem_map.mp he
    exact ⟨_, _, rfl⟩
  · obtain ⟨z, _, rfl⟩ := List.mem_map.mp he
    simp [lkD, PyData.depth, PyData.depthAll]
  · have hms : ((zs.map fun z => (V.ref z.1, lkD z.2)).mergeSort (PySem.W.dataLe false (·.2))).map (·.1) = (zs.mergeSort fun z z' => lkLe z.2 z'.2).map fun z => V.ref z.1 := by
      rw [← List.map_mergeSort (r := fun (z z' : Addr × Lk) => lkLe z.2 z'.2) (s := PySem.W.dataLe false (·.2)) (f := fun z : Addr × Lk => (V.ref z.1, lkD z.2)) (fun a _ b _ => rfl), List.map_map]
      rfl
    rw [hms]
    refine wc_tup (SqL.of upd_same) fun p3 hp3 => ?_
    refine ⟨szl (by simp only [List.length_cons, List.length_nil]; omega), fun p4 hp4 => ?_⟩
    have smA := (Same.mk (o := .lst ((zs.mergeSort fun z z' => lkLe z.2 z'.2).map fun z => V.ref z.1)) hp2).trans ((Same.mk (o := .tup ((zs.mergeSort fun z z' => lkLe z.2 z'.2).map fun z => V.ref z.1)) hp3).trans (Same.mk (o := .tup [.ref A.ps, .ref pr, .ref p3]) hp4))
    have smB := (Same.mk (o := .tup (rts.map V.ref)) hpr).trans smA
    refine q p4 pr p3 rts (zs.mergeSort fun z z' => lkLe z.2 z'.2) _ (sm.trans smB) (SqT.of upd_same) (SqT.of (smA _ _ upd_same)) ⟨hrw.len, fun j t r h1 h2 => ?_⟩ (SqT.of (Same.mk hp4 _ _ upd_same)) (fun z hz => ?_) ?_
    · obtain ⟨m, a, b⟩ := hrw.at_ j t r h1 h2
      exact ⟨m, (Fr.of (S := []) smB).sqt a List.not_mem_nil, (Fr.of (S := []) smB).sqt b List.not_mem_nil⟩
    · exact (Fr.of (S := []) smA).sqt (hzs2 z (List.mem_mergeSort.mp hz)) List.not_mem_nil
    · rw [← hzl, List.map_mergeSort (r := fun (z z' : Addr × Lk) => lkLe z.2 z'.2) (s := lkLe) (f := (·.2)) (fun a _ b _ => rfl)]
def spPutK (K : PySem.W.Frag) (C : Addr) : List V → List V → Hp → VK → XK → Prop := fun vs zs H Q _ => ∃ (A : TAd) (B : Tb) (x : Int) (ms : List Str), vs = .ref A.a :: ms.map V.str ∧ zs = [.int x] ∧ TbP K C A B H ∧ (∀ z ∈ ms, Nm z) ∧ ms.length < 60 ∧ B.rows.length < 10000 ∧
  ∀ zs H', Asc zs → (∀ z, z ∈ zs ↔ z ∈ ms) → Fr A.fp H H' → TbP K C A { B with rows := B.rows ++ [(zs, x)] } H' → Q (.int B.rows.length) H'
def spPut0 (K : PySem.W.Frag) (C : Addr) : List V → List V → Hp → VK → XK → Prop := fun vs _ H Q E => spPutK K C vs [.int 0] H Q E
theorem br_x {b : Bool} {A B : Prop} (e : b = true) (h : A) : br b A B := by rw [e]; exact h
theorem br_y {b : Bool} {A B : Prop} (e : b = false) (h : B) : br b A B := by rw [e]; exact h
def spNumber (K : PySem.W.Frag) : Sp := fun vs H Q _ => ∃ (b : Addr) (n : Nat), vs = [.ref b] ∧ Box b (n + 1) H ∧ ∀ (i : Int) H', i.natAbs ≤ 10 ^ 60 → Fr [b] H H' → Box b n H' → Q (.int i) H'
def spAdded (K : PySem.W.Frag) (C : Addr) : Sp := fun vs H Q _ => ∃ (A : TAd) (B : Tb) (l : Addr) (ms : List Str) (x : Int), vs = [.ref A.a, .ref l, .int x] ∧ TbP K C A B H ∧ SqL K H l (ms.map V.str) ∧ (∀ z ∈ ms, Nm z) ∧ ms.length ≤ 4 ∧ (x = 0 → ms.length ≤ 2) ∧ B.rows.length < 1000 ∧
  ∀ zs H', Asc zs → (∀ z, z ∈ zs ↔ z ∈ ms) → Fr A.fp H H' → TbP K C A { B with rows := B.rows ++ [(zs, x)] } H' → Q (.int B.rows.length) H'
/-- kind stands at i, its links beside it -/
structure AtK (B : Tb) (kind : Str) (i : Nat) (m b : Mp) : Prop where
  k : B.ks[i]? = some kind
  x : B.nx[i]? = some m
  b : B.bf[i]? = some b
def spNeed (K : PySem.W.Frag) (C : Addr) : Sp := fun vs H Q _ => ∃ (A : TAd) (B : Tb) (kind : Str) (p : Addr) (rs : List Nat), vs = [.ref A.a, .str kind, .ref p] ∧ TbP K C A B H ∧ SqT K H p (rs.map fun r : Nat => V.int r) ∧ kind ∈ B.ks ∧ (∀ r ∈ rs, r < B.rows.length) ∧ Q .non H
def spNeedK (K : PySem.W.Frag) (C : Addr) : List V → List V → Hp → VK → XK → Prop := fun vs zs H Q _ => ∃ (A : TAd) (B : Tb) (kind : Str) (rs : List Nat), vs = .ref A.a :: .str kind :: rs.map (fun r : Nat => V.int r) ∧ zs = [] ∧ TbP K C A B H ∧ kind ∈ B.ks ∧ (∀ r ∈ rs, r < B.rows.length) ∧ rs.length ≤ 1000 ∧ ∀ H', Same H H' → Q .non H'
def spLink (K : PySem.W.Frag) (C : Addr) : Sp := fun vs H Q _ => ∃ (A : TAd) (B : Tb) (kind : Str) (i row other : Nat) (m b : Mp), vs = [.ref A.a, .str kind, .int row, .int other] ∧ TbP K C A B H ∧ AtK B kind i m b ∧ LkI B.rows.length m b ∧ row < B.rows.length ∧ other < B.rows.length ∧ nxt m row = none ∧ nxt b other = none ∧ ¬ Rch m other row ∧ m.length < 10000 ∧ b.length < 10000 ∧
  ∀ H', Fr A.fp H H' → TbP K C A { B with nx := B.nx.set i (m ++ [(row, other)]), bf := B.bf.set i (b ++ [(other, row)]) } H' → Q .non H'
def spCut (K : PySem.W.Frag) (C : Addr) : Sp := fun vs H Q _ => ∃ (A : TAd) (B : Tb) (kind : Str) (i row other : Nat) (m b : Mp), vs = [.ref A.a, .str kind, .int row] ∧ TbP K C A B H ∧ AtK B kind i m b ∧ LkI B.rows.length m b ∧ (row, other) ∈ m ∧
  ∀ H', Fr A.fp H H' → TbP K C A { B with nx := B.nx.set i (m.filter fun e => decide (e.1 ≠ row)), bf := B.bf.set i (b.filter fun e => decide (e.1 ≠ other)) } H' → Q .non H'
def oV : Option Nat → V
  | some n => .int n
  | none => .non
def spAfter (K : PySem.W.Frag) (C : Addr) : Sp := fun vs H Q _ => ∃ (A : TAd) (B : Tb) (kind : Str) (i row : Nat) (m b : Mp), vs = [.ref A.a, .str kind, .int row] ∧ TbP K C A B H ∧ AtK B kind i m b ∧ row < B.rows.length ∧ ∀ H', Same H H' → Q (oV (nxt m row)) H'
def spBefore (K : PySem.W.Frag) (C : Addr) : Sp := fun vs H Q _ => ∃ (A : TAd) (B : Tb) (kind : Str) (i row : Nat) (m b : Mp), vs = [.ref A.a, .str kind, .int row] ∧ TbP K C A B H ∧ AtK B kind i m b ∧ row < B.rows.length ∧ ∀ H', Same H H' → Q (oV (nxt b row)) H'
section
variable {Γ : Gm} {K : PySem.W.Frag} {C : Addr} {A : TAd} {B : Tb} {kind : Str} {i : Nat} {m b : Mp} {H : Hp} {Q : VK}
theorem AtK.q (h : AtK B kind i m b) (t : TbP K C A B H) : ∃ q, A.qs[i]? = some q ∧ H q = some (.dK (mpK m)) ∧ valV (kdK B.ks A.qs) (Sum.inr kind) = some (.ref q) := by
  have hi := (List.getElem?_eq_some_iff.mp h.x).1
  obtain ⟨q, hq⟩ : ∃ q, A.qs[i]? = some q := ⟨_, List.getElem?_eq_getElem (by rw [t.qd.len]; exact hi)⟩
  exact ⟨q, hq, t.qd.at_ i q m hq h.x, valK t.ka.nd h.k hq⟩
theorem AtK.r (h : AtK B kind i m b) (t : TbP K C A B H) : ∃ q, A.rs[i]? = some q ∧ H q = some (.dK (mpK b)) ∧ valV (kdK B.ks A.rs) (Sum.inr kind) = some (.ref q) := by
  have hi := (List.getElem?_eq_some_iff.mp h.b).1
  obtain ⟨q, hq⟩ : ∃ q, A.rs[i]? = some q := ⟨_, List.getElem?_eq_getElem (by rw [t.rd.len]; exact hi)⟩
  exact ⟨q, hq, t.rd.at_ i q b hq h.b, valK t.ka.nd h.k hq⟩
theorem AtK.mem (h : AtK B kind i m b) : kind ∈ B.ks := List.mem_of_getElem? h.k
theorem wx_kind {d q : Addr} {qs : List Addr} (e : H d = some (.dK (kdK B.ks qs))) (v : valV (kdK B.ks qs) (Sum.inr kind) = some (.ref q)) (k : Q (.ref q) H) : WX Γ (.ref d) (.str kind) H Q := wx_d (a := d) (by
  have := DGet.k (k := Sum.inr kind) e
  rw [v] at this
  exact this) k
theorem dg_mp {q : Addr} {r : Nat} (e : H q = some (.dK (mpK m))) : DGet H q (.int r) ((nxt m r).map fun o : Nat => V.int o) := by
  have := DGet.k (k := Sum.inl (r : Int)) e
  rw [valV_mp] at this
  exact this
end
theorem q_fp {A : TAd} {i : Nat} {q : Addr} (h : A.qs[i]? = some q) : q ∈ A.fp := .tail _ (.tail _ (.tail _ (.tail _ (List.mem_append_left _ (List.mem_of_getElem? h)))))
theorem r_fp {A : TAd} {i : Nat} {q : Addr} (h : A.rs[i]? = some q) : q ∈ A.fp := .tail _ (.tail _ (.tail _ (.tail _ (List.mem_append_right _ (List.mem_of_getElem? h)))))
theorem oV_eq (o : Option Nat) : ((o.map fun z : Nat => V.int z).getD .non) = oV o := by cases o <;> rfl
theorem isD_mp {q : Addr} {m : Mp} {H : Hp} (e : H q = some (.dK (mpK m))) : IsD H q := .inl ⟨_, .inl e⟩
local macro_rules | `(tactic| walk_at "dd") => `(tactic| (try dsimp only [L2.tDGet1, L2.tDPop1, G.tMkS, L2.tDrop, L2.tLstRg, L2.tRg1, L2.tRevL, G.tS, L2.tOp, L2.tUn, L2.tCons, L2.tNil]); walk_at "di")
abbrev s_T_need : Stmt := inClass (topS 17) 4
abbrev n_T_need : List Str := ["self", "kind", "rows", "row"]
theorem sc_T_need : FnScope n_T_need ["self", "kind", "rows"] (defScope s_T_need) := ⟨rfl, rfl, rfl, by decide +kernel, rfl, by decide +kernel, by decide +kernel⟩
theorem nm_T_need : nvB n_T_need (defScope s_T_need) 0 "self" = true ∧ nvB n_T_need (defScope s_T_need) 1 "kind" = true ∧ nvB n_T_need (defScope s_T_need) 2 "rows" = true ∧ nvB n_T_need (defScope s_T_need) 3 "row" = true ∧ lvB n_T_need (defScope s_T_need) 3 "row" = true ∧ gvB (defScope s_T_need) "isinstance" = true ∧ gvB (defScope s_T_need) "str" = true := by decide +kernel
theorem bd_T_need {Γ : Gm} {C : Addr} (T : Names Γ) (L : KT Γ C) (m_needrow : Mt Γ CX0 3 C "need_row" (spNeedRow Γ.K C) []) (f : Addr) (cdv : Value) (A : Around) (outer : List Env) (s : Shared) (H : Hp) (vs : List V) (Q : VK) (E : XK) (hg : Good (Γ.at (4)) (cxOf CX0 Γ.P Γ.w Γ.K Γ.mg Γ.base n_T_need "Table.need" (defScope s_T_need) f cdv A outer s H E).nox) (h : (spNeed Γ.K C) vs H Q E) :
    ∃ t, PSs (cxOf CX0 Γ.P Γ.w Γ.K Γ.mg Γ.base n_T_need "Table.need" (defScope s_T_need) f cdv A outer s H E).nox (defBody s_T_need) t ∧ t { nx := fun _ H' => Q .non H', rt := Q } (L2.start n_T_need vs) H := by
  obtain ⟨A, B, kind, p, rs, rfl, ht, hp, hk, hr, q⟩ := h
  have nd := sc_T_need.nd
  obtain ⟨v0, v1, v2, v3, l3, g_isinstance, g_str⟩ := nm_T_need
  refine ⟨_, (pss_cons (ps_ifB (PW.pt (pw_orB (pt_not (pt_tr hg (pcb (WC.ok hg) g_isinstance T.n_isinstance bt_isinstance (pa_cons (ps 1 v1) (pa_cons (pe_bltn (v := .ty "str") (gv_of g_str).1 T.n_str bt_str rfl) pa_nil))))) (pw_or1 (pt_cm (WO.ok hg) (ps 1 v1) (pe_at (WA.ok hg) (ps 0 v0)) (by with_unfolding_all rfl)))))
    (pss_one ps_never)
    pss_nil)
    (pss_one (ps_for PassesOwn.never rfl (pi_t hg (ps 2 v2)) (pgn (i := 3) nd l3)
    (pss_one (ps_expr (pe_mw hg (ps 0 v0) (pa_cons (ps 3 v3) pa_nil))))))), ?_⟩
  refine st_start (σ := [some _, some _, some _, none]) rfl ?_
  walk_at "dn"
  refine wc_isi (.ty "str") (.base (.str _)) (kit_ty (r := true) (by decide +kernel)) ?_
  walk_at "di"
  refine L.so ht (wo_niS (.inr ht.so) ?_)
  rw [decide_eq_true hk]
  walk_at "di"
  refine ⟨p, rfl, ⟨_, hp⟩, ?_⟩
  refine lp_tup (xs := rs.map fun r : Nat => V.int r) (fun i σ H' => ∃ c, σ = [some (.ref A.a), some (.str kind), some (.ref p), c] ∧ H' = H) ⟨none, rfl, rfl⟩ (fun i σ H' _ ⟨_, _, e⟩ => by rw [e]; exact hp) ?_ ?_
  · rintro i y σ H1 hx ⟨c, rfl, rfl⟩
    rw [List.getElem?_map] at hx
    obtain ⟨r, hr1, rfl⟩ := Option.map_eq_some_iff.mp hx
    walk_at "dn"
    refine ⟨3, C, A.a, A.dx, A.fs, spNeedRow Γ.K C, [], E0, ⟨m_needrow.ex⟩, by omega, rfl, ht.ins, by rfl, A, B, r, rfl, ht, hr r (List.mem_of_getElem? hr1), ?_⟩
    exact ⟨_, rfl, rfl⟩
  · rintro σ H1 ⟨c, rfl, rfl⟩
    exact q
theorem fn_need {Γ : Gm} {C f : Addr} {fd : FuncData} (T : Names Γ) (L : KT Γ C) (m : Mt Γ CX0 3 C "need_row" (spNeedRow Γ.K C) []) (F : FunD Γ.K "need" "Table.need" (defArgs s_T_need) (defBody s_T_need) (defScope s_T_need) [] [] f fd) : FnRk Γ.P Γ.w Γ.K Γ.mg Γ.base CX0 5 f [] (spNeedK Γ.K C) := by
  refine (FnR.k (fun_star (P := Γ.P) (w := Γ.w) (mg := Γ.mg) (base := Γ.base) (k := 4) (ps := ["self", "kind"]) (pv := "rows") (sp := spNeed Γ.K C) F sc_T_need (fun kV doc pm an cdv ct us rest hl => match us, hl, rest with
    | [_, _], _, [] => rfl
    | [_, _], _, _ :: _ => rfl) fun cdv A outer s H vs Q E hr h => bd_T_need T L m f cdv A outer s H vs Q E (Good.of hr).nox h)).imp (fun vs zs H Q E h => ?_) (Nat.le_refl _)
  obtain ⟨A, B, kind, rs, rfl, rfl, ht, hk, hr, hl, q⟩ := h
  refine ⟨[.ref A.a, .str kind], rs.map fun r : Nat => V.int r, rfl, rfl, szl (by rw [List.length_map]; omega), fun p hp => ?_⟩
  exact ⟨A, B, kind, p, rs, rfl, ht.same (Same.mk hp), SqT.of upd_same, hk, hr, q _ (Same.mk hp)⟩
abbrev s_T_link : Stmt := inClass (topS 17) 7
abbrev n_T_link : List Str := ["self", "kind", "row", "other", "after", "last"]
theorem sc_T_link : FnScope n_T_link ["self", "kind", "row", "other"] (defScope s_T_link) := ⟨rfl, rfl, rfl, by decide +kernel, rfl, by decide +kernel, by decide +kernel⟩
theorem nm_T_link : nvB n_T_link (defScope s_T_link) 0 "self" = true ∧ nvB n_T_link (defScope s_T_link) 1 "kind" = true ∧ nvB n_T_link (defScope s_T_link) 2 "row" = true ∧ nvB n_T_link (defScope s_T_link) 3 "other" = true ∧ nvB n_T_link (defScope s_T_link) 4 "after" = true ∧ nvB n_T_link (defScope s_T_link) 5 "last" = true ∧ lvB n_T_link (defScope s_T_link) 4 "after" = true ∧ lvB n_T_link (defScope s_T_link) 5 "last" = true := by decide +kernel
theorem cl_T_link {Γ : Gm} {C : Addr} (dfn : DfM Γ C "link" "Table.link" s_T_link ["self", "kind", "row", "other"]) (T : Names Γ) (L : KT Γ C) (m_need : Mk' Γ 5 C "need" [] (spNeedK Γ.K C)) : Mt Γ CX0 (8) C "link" (spLink Γ.K C) [] := by
  refine dfn.mt sc_T_link (fun vs H Q E h => ?_) (fun f cdv A outer s H vs Q E hg h => ?_)
  · obtain ⟨A, B, kind, i, row, other, m, b, rfl, _⟩ := h
    rfl
  obtain ⟨A, B, kind, i, row, other, m, b, rfl, ht, ak, lk, lr, lo, n1, n2, nr, l1, l2, q⟩ := h
  have nd := sc_T_link.nd
  obtain ⟨v0, v1, v2, v3, v4, v5, l4, l5⟩ := nm_T_link
  refine ⟨_, (pss_cons (ps_expr (pe_mk hg (ps 0 v0) (pa_cons (ps 1 v1) (pa_cons (ps 2 v2) (pa_cons (ps 3 v3) pa_nil))) pk_nil))
    (C8.pss_cut (pst (i := 4) nd l4 (pe_ix (WX.ok hg) (pe_at (WA.ok hg) (ps 0 v0)) (ps 1 v1) (fun _ _ => rfl)))
    (pss_cons (ps_ifB (PW.pt (pw_orB (pt_cm (WO.ok hg) (ps 2 v2) (ps 4 v4) (by with_unfolding_all rfl)) (pw_or1 (pt_cm (WO.ok hg) (ps 3 v3) (pe_ix (WX.ok hg) (pe_at (WA.ok hg) (ps 0 v0)) (ps 1 v1) (fun _ _ => rfl)) (by with_unfolding_all rfl)))))
    (pss_one ps_never)
    pss_nil)
    (pss_cons (pst (i := 5) nd l5 (ps 3 v3))
    (C8.pss_cut (ps_while PassesOwn.never (pt_cm (WO.ok hg) (ps 5 v5) (ps 4 v4) (by with_unfolding_all rfl))
    (pss_one (pst (i := 5) nd l5 (pe_ix (WX.ok hg) (ps 4 v4) (ps 5 v5) (fun _ _ => rfl)))))
    (pss_cons (ps_ifB (pt_cm (k_eq hg) (ps 5 v5) (ps 2 v2) (nomark _))
    (pss_one ps_never)
    pss_nil)
    (pss_cons (ps_asg (ps 3 v3) (pg_sub (ps 4 v4) (ps 2 v2) (WP.ok hg)))
    (pss_one (ps_asg (ps 2 v2) (pg_sub (pe_ix (WX.ok hg) (pe_at (WA.ok hg) (ps 0 v0)) (ps 1 v1) (fun _ _ => rfl)) (ps 3 v3) (WP.ok hg))))))))))), ?_⟩
  refine st_start (σ := [some _, some _, some _, some _, none, none]) rfl ?_
  walk_at "dn"
  refine ⟨5, C, A.a, A.dx, A.fs, spNeedK Γ.K C, E0, ⟨m_need.ex⟩, by omega, rfl, ht.ins, by rfl, rfl, A, B, kind, [row, other], rfl, rfl, ht, ak.mem, fun r hr => by
    rcases List.mem_cons.mp hr with rfl | hr
    · exact lr
    · rw [List.mem_singleton.mp hr]; exact lo, by simp only [List.length_cons, List.length_nil]; omega, fun H1 s1 => ?_⟩
  have ht1 := ht.same s1
  obtain ⟨q0, h0, h1, h2⟩ := ak.q ht1
  obtain ⟨q1, g0, g1, g2⟩ := ak.r ht1
  refine ⟨fun σ' H' => σ' = [some (.ref A.a), some (.str kind), some (.int row), some (.int other), some (.ref q0), none] ∧ H' = H1, L.nx ht1 (wx_kind ht1.nx h2 ⟨rfl, rfl⟩), ?_⟩
  rintro σ' H' ⟨rfl, rfl⟩
  walk_at "di"
  refine wo_inD (dg_mp h1) ?_
  rw [n1]
  walk_at "di"
  walk_at "dd"
  refine L.bf ht1 (wx_kind ht1.bf g2 (wo_inD (dg_mp g1) ?_))
  rw [n2]
  walk_at "di"
  obtain ⟨rk, hrk⟩ := lk.ac
  refine ⟨fun σ' H2 => ∃ last : Nat, σ' = [some (.ref A.a), some (.str kind), some (.int row), some (.int other), some (.ref q0), some (.int last)] ∧ H2 = H' ∧ Rch m other last ∧ nxt m last = none, ?_, ?_⟩
  · refine ⟨fun k σ H2 => ∃ last : Nat, σ = [some (.ref A.a), some (.str kind), some (.int row), some (.int other), some (.ref q0), some (.int last)] ∧ H2 = H' ∧ Rch m other last ∧ k = top rk m - rk last, ⟨_, other, rfl, rfl, .refl _, rfl⟩, ?_⟩
    rintro k σ H2 ⟨last, rfl, rfl, hre, rfl⟩
    walk_at "dn"
    refine wo_inD (dg_mp h1) ?_
    cases hn : nxt m last with
    | none =>
      walk_at "di"
      rw [if_neg (by decide)]
      exact ⟨last, rfl, rfl, hre, hn⟩
    | some o =>
      walk_at "di"
      rw [if_pos (by rfl)]
      refine ⟨fun σ' H3 => ∃ last' : Nat, σ' = [some (.ref A.a), some (.str kind), some (.int row), some (.int other), some (.ref q0), some (.int last')] ∧ H3 = H2 ∧ Rch m other last' ∧ top rk m - rk last' < top rk m - rk last, fun σ' H3 ⟨l', e, eh, r, lt⟩ => ⟨_, lt, l', e, eh, r, rfl⟩, ?_⟩
      walk_at "dn"
      refine wx_d (v := .int o) (by have := dg_mp (r := last) h1; rw [hn] at this; exact this) ?_
      walk_at "di"
      have e1 := hrk _ _ (nxt_mem hn)
      have e2 := top_le (rk := rk) (nxt_mem hn)
      exact ⟨o, rfl, rfl, hre.snoc (nxt_mem hn), by omega⟩
  rintro σ' H2 ⟨last, rfl, rfl, hre, hn⟩
  walk_at "di"
  have ne : last ≠ row := fun e => nr (e ▸ hre)
  refine br_f (by omega) ?_
  refine wp_d (DPut.k (k := Sum.inl (row : Int)) h1 (lt_size (by unfold mpK; rw [List.length_map]; omega))) ?_
  rw [putK_mp n1]
  have ht2 := ht1.setX (m' := m ++ [(row, other)]) h0
  have ak2 : AtK { B with nx := B.nx.set i (m ++ [(row, other)]) } kind i (m ++ [(row, other)]) b := ⟨ak.k, by show (B.nx.set i _)[i]? = _; rw [List.getElem?_set_self (List.getElem?_eq_some_iff.mp ak.x).1], ak.b⟩
  obtain ⟨q2, f0, f1, f2⟩ := ak2.r ht2
  refine L.bf ht2 (wx_kind ht2.bf f2 ?_)
  refine wp_d (DPut.k (k := Sum.inl (other : Int)) f1 (lt_size (by unfold mpK; rw [List.length_map]; omega))) ?_
  rw [putK_mp n2]
  have ht3 := ht2.setB (m' := b ++ [(other, row)]) f0
  exact q _ (((Fr.of s1).trans (Fr.upd (q_fp h0))).trans (Fr.upd (r_fp f0))) ht3
abbrev s_T_cut : Stmt := inClass (topS 17) 9
abbrev n_T_cut : List Str := ["self", "kind", "row", "other"]
theorem sc_T_cut : FnScope n_T_cut ["self", "kind", "row"] (defScope s_T_cut) := ⟨rfl, rfl, rfl, by decide +kernel, rfl, by decide +kernel, by decide +kernel⟩
theorem nm_T_cut : nvB n_T_cut (defScope s_T_cut) 0 "self" = true ∧ nvB n_T_cut (defScope s_T_cut) 1 "kind" = true ∧ nvB n_T_cut (defScope s_T_cut) 2 "row" = true ∧ nvB n_T_cut (defScope s_T_cut) 3 "other" = true ∧ lvB n_T_cut (defScope s_T_cut) 3 "other" = true := by decide +kernel
theorem cl_T_cut {Γ : Gm} {C : Addr} (dfn : DfM Γ C "cut" "Table.cut" s_T_cut ["self", "kind", "row"]) (T : Names Γ) (L : KT Γ C) (m_need : Mk' Γ 5 C "need" [] (spNeedK Γ.K C)) : Mt Γ CX0 (8) C "cut" (spCut Γ.K C) [] := by
  refine dfn.mt sc_T_cut (fun vs H Q E h => ?_) (fun f cdv A outer s H vs Q E hg h => ?_)
  · obtain ⟨A, B, kind, i, row, other, m, b, rfl, _⟩ := h
    rfl
  obtain ⟨A, B, kind, i, row, other, m, b, rfl, ht, ak, lk, hm, q⟩ := h
  have nd := sc_T_cut.nd
  obtain ⟨v0, v1, v2, v3, l3⟩ := nm_T_cut
  refine ⟨_, (pss_cons (ps_expr (pe_mk hg (ps 0 v0) (pa_cons (ps 1 v1) (pa_cons (ps 2 v2) pa_nil)) pk_nil))
    (pss_cons (ps_ifB (pt_cm (WO.ok hg) (ps 2 v2) (pe_ix (WX.ok hg) (pe_at (WA.ok hg) (ps 0 v0)) (ps 1 v1) (fun _ _ => rfl)) (by with_unfolding_all rfl))
    (pss_one ps_never)
    pss_nil)
    (pss_cons (pst (i := 3) nd l3 (pe_dpop1 (pe_ix (WX.ok hg) (pe_at (WA.ok hg) (ps 0 v0)) (ps 1 v1) (fun _ _ => rfl)) (ps 2 v2) ⟨rfl, rfl, rfl, rfl⟩))
    (pss_one (ps_expr (pe_dpop1 (pe_ix (WX.ok hg) (pe_at (WA.ok hg) (ps 0 v0)) (ps 1 v1) (fun _ _ => rfl)) (ps 3 v3) ⟨rfl, rfl, rfl, rfl⟩)))))), ?_⟩
  refine st_start (σ := [some _, some _, some _, none]) rfl ?_
  walk_at "dn"
  have lr := (lk.lt row other hm).1
  have n1 : nxt m row = some other := nxt_of lk.km hm
  have n2 : nxt b other = some row := nxt_of lk.kb ((lk.inv row other).mp hm)
  refine ⟨5, C, A.a, A.dx, A.fs, spNeedK Γ.K C, E0, ⟨m_need.ex⟩, by omega, rfl, ht.ins, by rfl, rfl, A, B, kind, [row], rfl, rfl, ht, ak.mem, fun r hr => by rw [List.mem_singleton.mp hr]; exact lr, by simp only [List.length_cons, List.length_nil]; omega, fun H1 s1 => ?_⟩
  have ht1 := ht.same s1
  obtain ⟨q0, h0, h1, h2⟩ := ak.q ht1
  refine L.nx ht1 (wx_kind ht1.nx h2 (wo_niD (dg_mp h1) ?_))
  rw [n1]
  walk_at "di"
  walk_at "dd"
  refine L.nx ht1 (wx_kind ht1.nx h2 ⟨q0, rfl, isD_mp h1, mpK m, Sum.inl (row : Int), .int other, h1, rfl, by rw [valV_mp, n1]; rfl, ?_⟩)
  rw [dropK_mp]
  have ht2 := ht1.setX (m' := m.filter fun e => decide (e.1 ≠ row)) h0
  have ak2 : AtK { B with nx := B.nx.set i (m.filter fun e => decide (e.1 ≠ row)) } kind i (m.filter fun e => decide (e.1 ≠ row)) b := ⟨ak.k, by show (B.nx.set i _)[i]? = _; rw [List.getElem?_set_self (List.getElem?_eq_some_iff.mp ak.x).1], ak.b⟩
  obtain ⟨q1, g0, g1, g2⟩ := ak2.r ht2
  walk_at "dd"
  refine L.bf ht2 (wx_kind ht2.bf g2 ⟨q1, rfl, isD_mp g1, mpK b, Sum.inl (other : Int), .int row, g1, rfl, by rw [valV_mp, n2]; rfl, ?_⟩)
  rw [dropK_mp]
  have ht3 := ht2.setB (m' := b.filter fun e => decide (e.1 ≠ other)) g0
  exact q _ (((Fr.of s1).trans (Fr.upd (q_fp h0))).trans (Fr.upd (r_fp g0))) ht3
abbrev s_T_after : Stmt := inClass (topS 17) 10
abbrev n_T_after : List Str := ["self", "kind", "row"]
theorem sc_T_after : FnScope n_T_after ["self", "kind", "row"] (defScope s_T_after) := ⟨rfl, rfl, rfl, by decide +kernel, rfl, by decide +kernel, by decide +kernel⟩
theorem nm_T_after : nvB n_T_after (defScope s_T_after) 0 "self" = true ∧ nvB n_T_after (defScope s_T_after) 1 "kind" = true ∧ nvB n_T_after (defScope s_T_after) 2 "row" = true := by decide +kernel
theorem cl_T_after {Γ : Gm} {C : Addr} (dfn : DfM Γ C "after" "Table.after" s_T_after ["self", "kind", "row"]) (T : Names Γ) (L : KT Γ C) (m_need : Mk' Γ 5 C "need" [] (spNeedK Γ.K C)) : Mt Γ CX0 (8) C "after" (spAfter Γ.K C) [] := by
  refine dfn.mt sc_T_after (fun vs H Q E h => ?_) (fun f cdv A outer s H vs Q E hg h => ?_)
  · obtain ⟨A, B, kind, i, row, m, b, rfl, _⟩ := h
    rfl
  obtain ⟨A, B, kind, i, row, m, b, rfl, ht, ak, lr, q⟩ := h
  have nd := sc_T_after.nd
  obtain ⟨v0, v1, v2⟩ := nm_T_after
  refine ⟨_, (pss_cons (ps_expr (pe_mk hg (ps 0 v0) (pa_cons (ps 1 v1) (pa_cons (ps 2 v2) pa_nil)) pk_nil))
    (pss_one (ps_ret (pe_dget1 hg.hu (pe_ix (WX.ok hg) (pe_at (WA.ok hg) (ps 0 v0)) (ps 1 v1) (fun _ _ => rfl)) (ps 2 v2) ⟨rfl, rfl, rfl, rfl⟩)))), ?_⟩
  refine st_start (σ := [some _, some _, some _]) rfl ?_
  walk_at "dn"
  refine ⟨5, C, A.a, A.dx, A.fs, spNeedK Γ.K C, E0, ⟨m_need.ex⟩, by omega, rfl, ht.ins, by rfl, rfl, A, B, kind, [row], rfl, rfl, ht, ak.mem, fun r hr => by rw [List.mem_singleton.mp hr]; exact lr, by simp only [List.length_cons, List.length_nil]; omega, fun H1 s1 => ?_⟩
  have ht1 := ht.same s1
  obtain ⟨q0, h0, h1, h2⟩ := ak.q ht1
  walk_at "dd"
  refine L.nx ht1 (wx_kind ht1.nx h2 ⟨q0, rfl, isD_mp h1, _, dg_mp h1, ?_⟩)
  rw [oV_eq]
  exact q H1 s1
/-- a link of any kind -/
def Edg (B : Tb) (r o : Nat) : Prop := ∃ (i : Nat) (m : Mp), B.nx[i]? = some m ∧ (r, o) ∈ m
/-- all kinds' links are in order -/
structure TbL (B : Tb) : Prop where
  ln : B.nx.length = B.ks.length
  lb : B.bf.length = B.ks.length
  ok : ∀ (i : Nat) (m b : Mp), B.nx[i]? = some m → B.bf[i]? = some b → LkI B.rows.length m b
theorem TbL.at_ {B : Tb} (h : TbL B) {i : Nat} {kind : Str} (k : B.ks[i]? = some kind) : ∃ m b, AtK B kind i m b ∧ LkI B.rows.length m b := by
  have hi := (List.getElem?_eq_some_iff.mp k).1
  have h1 := h.ln
  have h2 := h.lb
  exact ⟨_, _, ⟨k, List.getElem?_eq_getElem (by omega), List.getElem?_eq_getElem (by omega)⟩, h.ok i _ _ (List.getElem?_eq_getElem (by omega)) (List.getElem?_eq_getElem (by omega))⟩
theorem wc_any {Γ : Gm} {H : Hp} {Q : VK} {a : Addr} {bs : List Bool} (m : SqL Γ.K H a (bs.map V.bl)) (q : Q (.bl (bs.any id)) H) : WC Γ (.builtin "any") [.ref a] H Q :=
  ⟨rAny Γ.K, fun X g => (by have := cr_any (X := X) g.calm; rw [g.K] at this; exact this), a, bs, rfl, m, q⟩
def inN (o : Option Nat) (l : List Nat) : Bool := match o with
  | some r => decide (r ∈ l)
  | none => false
theorem inV_oV (o : Option Nat) (l : List Nat) : inV (oV o) (l.map fun r : Nat => V.int r) = inN o l := by
  unfold inV
  rw [List.any_map]
  cases o with
  | none =>
    show _ = false
    rw [List.any_eq_false]
    intro y hy e
    simp [eqV, oV] at e
  | some r =>
    show _ = decide (r ∈ l)
    by_cases h : r ∈ l
    · rw [decide_eq_true h]
      exact List.any_eq_true.mpr ⟨r, h, by simp [eqV, oV]⟩
    · rw [decide_eq_false h, List.any_eq_false]
      intro y hy e
      simp [eqV, oV] at e
      have e : y = r := by omega
      exact h (e ▸ hy)
theorem wo_inN {Γ : Gm} {H : Hp} {Q : VK} {o : Option Nat} {p : Addr} {l : List Nat} (hp : SqL Γ.K H p (l.map fun r : Nat => V.int r) ∨ SqT Γ.K H p (l.map fun r : Nat => V.int r)) (k : Q (.bl (inN o l)) H) : WO Γ (compareOp .In) (oV o) (.ref p) H Q :=
  ⟨rIn Γ.K false, fun X g => (by have := op_in_seq (X := X); rw [g.K] at this; exact this), p, _, rfl, hp, by cases o <;> rfl, by rw [List.all_map]; exact List.all_eq_true.mpr fun _ _ => rfl, by
    rw [inV_oV]
    exact k⟩
theorem wo_niN {Γ : Gm} {H : Hp} {Q : VK} {x : Nat} {p : Addr} {l : List Nat} (hp : SqL Γ.K H p (l.map fun r : Nat => V.int r)) (k : Q (.bl (!decide (x ∈ l))) H) : WO Γ (compareOp .NotIn) (.int x) (.ref p) H Q :=
  ⟨rIn Γ.K true, fun X g => (by have := op_notIn_seq (X := X); rw [g.K] at this; exact this), p, _, rfl, .inl hp, rfl, by rw [List.all_map]; exact List.all_eq_true.mpr fun _ _ => rfl, by
    have e := inV_oV (some x) l
    rw [if_pos rfl, show inV (.int x) (l.map fun r : Nat => V.int r) = decide (x ∈ l) from e]
    exact k⟩
def spPressed (K : PySem.W.Frag) (C : Addr) : Sp := fun vs H Q _ => ∃ (A : TAd) (B : Tb) (row : Nat) (l : Addr) (left : List Nat), vs = [.ref A.a, .int row, .ref l] ∧ TbP K C A B H ∧ TbL B ∧ B.ks.length ≤ 20 ∧ H l = some (.lst (left.map fun r : Nat => V.int r)) ∧ left.length < 10000 ∧
  ∀ (bl : Bool) H', (bl = true ↔ ∃ r ∈ left, Edg B r row) → Same H H' → Q (.bl bl) H'
/-- along all links one only goes on -/
def Tmd (E : Nat → Nat → Prop) : Prop := ∃ rk : Nat → Nat, ∀ r o, E r o → rk r < rk o
/-- those not in left are ranked below t -/
structure GrI (E : Nat → Nat → Prop) (n : Nat) (left : List Nat) (t : Nat) : Prop where
  ex : ∃ rk : Nat → Nat, (∀ r o, E r o → o ∉ left → r ∉ left ∧ rk r < rk o) ∧ ∀ r, r < n → r ∉ left → rk r < t
theorem GrI.start {E : Nat → Nat → Prop} {n : Nat} (h : ∀ r o, E r o → r < n ∧ o < n) : GrI E n (List.range n) 0 :=
  ⟨fun _ => 0, fun r o e k => absurd (List.mem_range.mpr (h r o e).2) k, fun r l k => absurd (List.mem_range.mpr l) k⟩
theorem GrI.fin {E : Nat → Nat → Prop} {n t : Nat} (h : GrI E n [] t) : Tmd E := by
  obtain ⟨rk, h1, _⟩ := h.ex
  exact ⟨rk, fun r o e => (h1 r o e List.not_mem_nil).2⟩
/-- the free ones go -/
theorem GrI.step {E : Nat → Nat → Prop} {n t : Nat} {left free left' : List Nat} (h : GrI E n left t) (lt : ∀ r o, E r o → r < n ∧ o < n) (hf : ∀ x, x ∈ free ↔ x ∈ left ∧ ¬ ∃ r ∈ left, E r x) (hl : ∀ x, x ∈ left' ↔ x ∈ left ∧ x ∉ free) : GrI E n left' (t + 1) := by
  classical
  obtain ⟨rk, h1, h2⟩ := h.ex
  refine ⟨fun x => if x ∈ left then t else rk x, fun r o e k => ?_, fun r l k => ?_⟩
  · show r ∉ left' ∧ (if r ∈ left then t else rk r) < (if o ∈ left then t else rk o)
    by_cases ho : o ∈ left
    · have of : o ∈ free := Classical.byContradiction fun z => k ((hl o).mpr ⟨ho, z⟩)
      have nr : r ∉ left := fun z => ((hf o).mp of).2 ⟨r, z, e⟩
      refine ⟨fun z => nr ((hl r).mp z).1, ?_⟩
      rw [if_neg nr, if_pos ho]
      exact h2 r (lt r o e).1 nr
    · obtain ⟨a, b⟩ := h1 r o e ho
      refine ⟨fun z => a ((hl r).mp z).1, ?_⟩
      rw [if_neg a, if_neg ho]
      exact b
  · show (if r ∈ left then t else rk r) < t + 1
    by_cases hr : r ∈ left
    · rw [if_pos hr]; omega
    · rw [if_neg hr]
      have := h2 r l hr
      omega
/-- none is free -/
theorem no_free {E : Nat → Nat → Prop} {left : List Nat} (hn : left ≠ []) (h : ∀ x ∈ left, ∃ r ∈ left, E r x) : ¬ Tmd E := by
  rintro ⟨rk, hrk⟩
  have key : ∀ k, ∀ x ∈ left, rk x ≤ k → False := by
    intro k
    induction k with
    | zero =>
      intro x hx hk
      obtain ⟨r, _, e⟩ := h x hx
      have := hrk r x e
      omega
    | succ k ih =>
      intro x hx hk
      obtain ⟨r, hr, e⟩ := h x hx
      have := hrk r x e
      exact ih r hr (by omega)
  cases left with
  | nil => exact hn rfl
  | cons x l => exact key (rk x) x (.head _) (Nat.le_refl _)
theorem Edg.lt {B : Tb} (h : TbL B) {r o : Nat} (e : Edg B r o) : r < B.rows.length ∧ o < B.rows.length := by
  obtain ⟨i, m, h1, h2⟩ := e
  have hi := (List.getElem?_eq_some_iff.mp h1).1
  have a := h.ln
  have b := h.lb
  exact (h.ok i m _ h1 (List.getElem?_eq_getElem (by omega))).lt r o h2
def spClock (K : PySem.W.Frag) (C : Addr) : Sp := fun vs H Q _ => ∃ (A : TAd) (B : Tb), vs = [.ref A.a] ∧ TbP K C A B H ∧ TbL B ∧ B.ks.length ≤ 20 ∧ B.rows.length < 10000 ∧
  ∀ (bl : Bool) H', (bl = true ↔ Tmd (Edg B)) → Same H H' → Q (.bl bl) H'
/-- each is followed by the next one -/
inductive Chn (m : Mp) : List Nat → Prop where
  | one (x : Nat) : Chn m [x]
  | cons {x y : Nat} {l : List Nat} : nxt m x = some y → Chn m (y :: l) → Chn m (x :: y :: l)
theorem Chn.snoc {m : Mp} : ∀ {l : List Nat} {e y : Nat}, Chn m (l ++ [e]) → nxt m e = some y → Chn m ((l ++ [e]) ++ [y])
  | [], e, y, _, h => .cons h (.one y)
  | [a], e, y, .cons h1 _, h => .cons h1 (.cons h (.one y))
  | a :: b :: l, e, y, .cons h1 c, h => .cons h1 (Chn.snoc (l := b :: l) c h)
/-- a whole line, from its first row to its last -/
structure LineOk (n : Nat) (m b : Mp) (ln : List Nat) (f e : Nat) : Prop where
  h : ln.head? = some f
  t : ln.getLast? = some e
  fn : f < n
  en : e < n
  fb : nxt b f = none
  em : nxt m e = none
  r : Rch m f e
  c : Chn m ln
  nd : ln.Nodup
  lt : ∀ x ∈ ln, x < n
def tupH {Γ : Gm} (a : Addr) (xs : List V) : PF (E1 Γ) := ⟨fun H => H a = some (.tup xs), fun H H' k h => k _ _ h (.inr trivial)⟩
structure LnP (K : PySem.W.Frag) (H : Hp) (ts : List Addr) (lns : List (List Nat)) : Prop where
  len : ts.length = lns.length
  at_ : ∀ (i : Nat) (t : Addr) (l : List Nat), ts[i]? = some t → lns[i]? = some l → H t = some (.tup (l.map fun r : Nat => V.int r))
def lnsF {Γ : Gm} (ts : List Addr) (ls : List (List Nat)) : PF (E1 Γ) := ⟨fun H => LnP Γ.K H ts ls, fun H H' k h => ⟨h.len, fun i t e a b => k _ _ (h.at_ i t e a b) (.inr trivial)⟩⟩
theorem lns_app {K : PySem.W.Frag} {H : Hp} {ts : List Addr} {ls : List (List Nat)} {t : Addr} {l : List Nat} (h : LnP K H ts ls) (k : H t = some (.tup (l.map fun r : Nat => V.int r))) : LnP K H (ts ++ [t]) (ls ++ [l]) := by
  refine ⟨by rw [List.length_append, List.length_append, h.len]; rfl, fun i u x a b => ?_⟩
  rcases Nat.lt_trichotomy i ts.length with hi | hi | hi
  · rw [List.getElem?_append_left hi] at a
    rw [List.getElem?_append_left (by rw [← h.len]; exact hi)] at b
    exact h.at_ i u x a b
  · rw [hi, List.getElem?_append_right (Nat.le_refl _)] at a
    rw [hi, h.len, List.getElem?_append_right (Nat.le_refl _)] at b
    obtain rfl : t = u := by simpa using a
    obtain rfl : l = x := by simpa using b
    exact k
  · rw [List.getElem?_append_right (by omega), List.getElem?_eq_none (by simp; omega)] at a
    cases a
def spLines (K : PySem.W.Frag) (C : Addr) : Sp := fun vs H Q _ => ∃ (A : TAd) (B : Tb) (kind : Str) (i : Nat) (m b : Mp), vs = [.ref A.a, .str kind] ∧ TbP K C A B H ∧ AtK B kind i m b ∧ LkI B.rows.length m b ∧ B.rows.length < 10000 ∧
  ∀ (p : Addr) (ts : List Addr) (lns : List (List Nat)) H', Same H H' → SqT K H' p (ts.map V.ref) → LnP K H' ts lns → lns.length ≤ B.rows.length → (∀ ln ∈ lns, ∃ f e, LineOk B.rows.length m b ln f e) → lns.map List.head? = ((List.range B.rows.length).filter fun r => (nxt b r).isNone).map some → Q (.ref p) H'
def lkm (k : Str) (ls : List Lk) : Mp := (ls.filter fun e => decide (e.1 = k)).map (·.2)
def swp (m : Mp) : Mp := m.map fun e => (e.2, e.1)
structure LnkP (K : PySem.W.Frag) (H : Hp) (ts : List Addr) (ls : List Lk) : Prop where
  len : ts.length = ls.length
  at_ : ∀ (i : Nat) (t : Addr) (e : Lk), ts[i]? = some t → ls[i]? = some e → SqT K H t (lkI e)
/-- links that can stand in a table of n rows with these kinds -/
structure LksOk (n : Nat) (ks : List Str) (ls : List Lk) : Prop where
  k : ∀ e ∈ ls, e.1 ∈ ks
  i : ∀ k ∈ ks, LkI n (lkm k ls) (swp (lkm k ls))
theorem lkm_app {k : Str} {a b : List Lk} : lkm k (a ++ b) = lkm k a ++ lkm k b := by unfold lkm; rw [List.filter_append, List.map_append]
theorem lkm_one {k : Str} {e : Lk} (h : e.1 = k) : lkm k [e] = [e.2] := by unfold lkm; rw [List.filter_cons_of_pos (by simpa using h)]; rfl
theorem lkm_oth {k : Str} {e : Lk} (h : e.1 ≠ k) : lkm k [e] = [] := by unfold lkm; rw [List.filter_cons_of_neg (by simpa using h)]; rfl
theorem swp_app {a b : Mp} : swp (a ++ b) = swp a ++ swp b := List.map_append
theorem mem_swp {m : Mp} {r o : Nat} : (o, r) ∈ swp m ↔ (r, o) ∈ m := by
  unfold swp
  rw [List.mem_map]
  exact ⟨fun ⟨e, h, g⟩ => by cases g; exact h, fun h => ⟨(r, o), h, rfl⟩⟩
theorem rch_le {m : Mp} {rk : Nat → Nat} (h : ∀ r o, (r, o) ∈ m → rk r < rk o) {a b : Nat} (r : Rch m a b) : rk a ≤ rk b := by
  induction r with
  | refl => exact Nat.le_refl _
  | step h1 _ ih => exact Nat.le_trans (Nat.le_of_lt (h _ _ h1)) ih
/-- what stands ahead of a link allows it -/
theorem lki_pre {n r o : Nat} {m t : Mp} (h : LkI n (m ++ (r, o) :: t) (swp (m ++ (r, o) :: t))) : LkI n m (swp m) ∧ r < n ∧ o < n ∧ nxt m r = none ∧ nxt (swp m) o = none ∧ ¬ Rch m o r := by
  have hs : ∀ {a b}, (a, b) ∈ m → (a, b) ∈ m ++ (r, o) :: t := fun e => List.mem_append_left _ e
  have hro : (r, o) ∈ m ++ (r, o) :: t := List.mem_append_right _ (.head _)
  have k1 := h.km
  have k2 := h.kb
  rw [swp_app] at k2
  rw [List.map_append] at k1 k2
  obtain ⟨rk, hrk⟩ := h.ac
  have d1 := List.nodup_append.mp k1
  have d2 := List.nodup_append.mp k2
  refine ⟨⟨d1.1, d2.1, fun a b => mem_swp.symm, fun a b e => h.lt a b (hs e), rk, fun a b e => hrk a b (hs e)⟩, (h.lt r o hro).1, (h.lt r o hro).2, ?_, ?_, fun z => ?_⟩
  · refine nxt_none.mpr fun y hy => d1.2.2 r (List.mem_map.mpr ⟨_, hy, rfl⟩) r (List.mem_map.mpr ⟨(r, o), .head _, rfl⟩) rfl
  · refine nxt_none.mpr fun y hy => d2.2.2 o (List.mem_map.mpr ⟨_, hy, rfl⟩) o (List.mem_map.mpr ⟨(o, r), List.mem_map.mpr ⟨(r, o), .head _, rfl⟩, rfl⟩) rfl
  · have h1 := rch_le (fun a b e => hrk a b (hs e)) z
    have h2 := hrk r o hro
    omega
theorem lkm_split {k : Str} {ls : List Lk} {j : Nat} {e : Lk} (h : ls[j]? = some e) (hk : e.1 = k) : ∃ t, lkm k ls = lkm k (ls.take j) ++ e.2 :: t := by
  have hj := (List.getElem?_eq_some_iff.mp h).1
  refine ⟨lkm k (ls.drop (j + 1)), ?_⟩
  have e1 : ls = ls.take j ++ ([e] ++ ls.drop (j + 1)) := by
    have := List.take_append_drop j ls
    rw [List.drop_eq_getElem_cons hj, (List.getElem?_eq_some_iff.mp h).2] at this
    exact this.symm
  conv => lhs; rw [e1]
  rw [lkm_app, lkm_app, lkm_one hk]
  rfl
theorem map_upd {β : Type} {f g : Str → β} {ys : List Str} {i : Nat} {k : Str} (nd : ys.Nodup) (h : ys[i]? = some k) (e : ∀ k', k' ≠ k → f k' = g k') : (ys.map f).set i (g k) = ys.map g := by
  refine List.ext_getElem? fun j => ?_
  rw [List.getElem?_set, List.getElem?_map, List.getElem?_map]
  have hi := (List.getElem?_eq_some_iff.mp h).1
  by_cases hij : i = j
  · subst hij
    rw [if_pos rfl, if_pos (by rw [List.length_map]; exact hi), h]
    rfl
  · rw [if_neg hij]
    cases hj : ys[j]? with
    | none => rfl
    | some k' =>
      have ne : k' ≠ k := fun z => hij ((List.getElem?_inj hi nd).mp (by rw [h, hj, z]))
      show some (f k') = some (g k')
      rw [e k' ne]
def RowsR (rows rws : List Rw) : Prop := rows.length = rws.length ∧ ∀ (i : Nat) (r r' : Rw), rows[i]? = some r → rws[i]? = some r' → r.2 = r'.2 ∧ ∀ z, z ∈ r.1 ↔ z ∈ r'.1
def spTInitF (K : PySem.W.Frag) (C : Addr) : Sp := fun vs H Q _ => ∃ (x dx p r l : Addr) (b b1 b2 : Bool) (zs : List Str) (rts : List Addr) (rws : List Rw) (lts : List Addr) (ls : List Lk), vs = [.ref x, .ref p, .ref r, .ref l] ∧ H x = some (.ins C dx []) ∧ SqB K H p (zs.map V.str) b ∧ (∀ z ∈ zs, Nm z) ∧ zs.Nodup ∧ zs.length ≤ 20 ∧
  (b1 = true → r ≠ x) ∧ (b2 = true → l ≠ x) ∧ SqB K H r (rts.map V.ref) b1 ∧ RwP K H rts rws ∧ (∀ u ∈ rws, (∀ z ∈ u.1, Nm z) ∧ u.1.length < 60) ∧ rws.length < 1000 ∧ SqB K H l (lts.map V.ref) b2 ∧ LnkP K H lts ls ∧ LksOk rws.length zs ls ∧ ls.length < 1000 ∧
  ∀ (A : TAd) (B : Tb) H', A.a = x → Fr [x] H H' → (∀ a ∈ A.fp, H a = none) → TbP K C A B H' → RowsR B.rows rws → B.nx = B.ks.map (fun k => lkm k ls) → B.bf = B.ks.map (fun k => swp (lkm k ls)) → (∀ z, z ∈ B.ks ↔ z ∈ zs) → Q .non H'
theorem sqe_fr1 {K : PySem.W.Frag} {H H' : Hp} {x q C dx : Addr} {xs : List V} {fs : List (Str × V)} (h : SqE K H q xs) (f : Fr [x] H H') (hx : H x = some (.ins C dx fs)) : SqE K H' q xs := by
  rcases h with h | h
  · exact .inl (sqt_fr1 h f hx)
  · refine .inr ?_
    rcases h with (h | ⟨o, h⟩) | h
    · exact .inl (.inl (f _ _ (fun z => by rw [List.mem_singleton.mp z, hx] at h; cases h) h))
    · exact .inl (.inr ⟨o, f _ _ (fun z => by rw [List.mem_singleton.mp z, hx] at h; cases h) h⟩)
    · exact .inr h
theorem SqE.same {K : PySem.W.Frag} {H H' : Hp} {q : Addr} {xs : List V} (h : SqE K H q xs) (s : Same H H') : SqE K H' q xs := h.imp (fun h => (Fr.of (S := []) s).sqt h List.not_mem_nil) fun h => (Fr.of (S := []) s).sql h List.not_mem_nil
/-- rows as tuples or lists -/
structure RwG (K : PySem.W.Frag) (H : Hp) (ts : List Addr) (rows : List Rw) : Prop where
  len : ts.length = rows.length
  at_ : ∀ (i : Nat) (t : Addr) (r : Rw), ts[i]? = some t → rows[i]? = some r → ∃ m, SqE K H t [.ref m, .int r.2] ∧ SqE K H m (r.1.map V.str)
structure LnkG (K : PySem.W.Frag) (H : Hp) (ts : List Addr) (ls : List Lk) : Prop where
  len : ts.length = ls.length
  at_ : ∀ (i : Nat) (t : Addr) (e : Lk), ts[i]? = some t → ls[i]? = some e → SqE K H t (lkI e)
theorem RwP.g {K : PySem.W.Frag} {H : Hp} {ts : List Addr} {rows : List Rw} (h : RwP K H ts rows) : RwG K H ts rows := ⟨h.len, fun i t r a b => by
  obtain ⟨m, h1, h2⟩ := h.at_ i t r a b
  exact ⟨m, .inl h1, .inl h2⟩⟩
theorem LnkP.g {K : PySem.W.Frag} {H : Hp} {ts : List Addr} {ls : List Lk} (h : LnkP K H ts ls) : LnkG K H ts ls := ⟨h.len, fun i t e a b => .inl (h.at_ i t e a b)⟩
theorem RwG.same {K : PySem.W.Frag} {H H' : Hp} {ts : List Addr} {rows : List Rw} (h : RwG K H ts rows) (s : Same H H') : RwG K H' ts rows := ⟨h.len, fun i t r a b => by
  obtain ⟨m, h1, h2⟩ := h.at_ i t r a b
  exact ⟨m, SqE.same h1 s, SqE.same h2 s⟩⟩
theorem LnkG.same {K : PySem.W.Frag} {H H' : Hp} {ts : List Addr} {ls : List Lk} (h : LnkG K H ts ls) (s : Same H H') : LnkG K H' ts ls := ⟨h.len, fun i t e a b => SqE.same (h.at_ i t e a b) s⟩
/-- values: self, kinds, then links, rows by name -/
def gK2 {α : Type} (us _its ws : List α) : List α := match ws with
  | [l, r] => us ++ [r, l]
  | _ => us
def gV2 : List V → List V → List V := fun vs zs => gK2 vs [] zs
theorem Mkr.imp {Γ : Gm} {CX : CXT} {k : Nat} {x : Str} {C : Addr} {sp sp' : Sp} {dvs : List V} (c : Mkr Γ CX k x C sp dvs) (h : ∀ vs H Q E, sp' vs H Q E → sp vs H Q E) : Mkr Γ CX k x C sp' dvs := by
  obtain ⟨f, fd, ps, ds, F, r⟩ := c.ex
  exact ⟨f, fd, ps, ds, F.imp h, r⟩
def spTInitG (K : PySem.W.Frag) (C : Addr) : Sp := fun vs H Q _ => ∃ (x dx p r l : Addr) (b b1 b2 : Bool) (zs : List Str) (rts : List Addr) (rws : List Rw) (lts : List Addr) (ls : List Lk), vs = [.ref x, .ref p, .ref r, .ref l] ∧ H x = some (.ins C dx []) ∧ SqB K H p (zs.map V.str) b ∧ (∀ z ∈ zs, Nm z) ∧ zs.Nodup ∧ zs.length ≤ 20 ∧
  (b1 = true → r ≠ x) ∧ (b2 = true → l ≠ x) ∧ SqB K H r (rts.map V.ref) b1 ∧ RwG K H rts rws ∧ (∀ u ∈ rws, (∀ z ∈ u.1, Nm z) ∧ u.1.length < 60) ∧ rws.length < 1000 ∧ SqB K H l (lts.map V.ref) b2 ∧ LnkG K H lts ls ∧ LksOk rws.length zs ls ∧ ls.length < 1000 ∧
  ∀ (A : TAd) (B : Tb) H', A.a = x → Fr [x] H H' → (∀ a ∈ A.fp, H a = none) → TbP K C A B H' → RowsR B.rows rws → B.nx = B.ks.map (fun k => lkm k ls) → B.bf = B.ks.map (fun k => swp (lkm k ls)) → (∀ z, z ∈ B.ks ↔ z ∈ zs) → Q .non H'
abbrev s_T_initG : Stmt := inClass (topS 17) 0
abbrev n_T_initG : List Str := ["self", "kinds", "rows", "links", "marks", "x", "kind", "row", "other"]
theorem sc_T_initG : FnScope n_T_initG ["self", "kinds", "rows", "links"] (defScope s_T_initG) := ⟨rfl, rfl, rfl, by decide +kernel, rfl, by decide +kernel, by decide +kernel⟩
theorem nm_T_initG : nvB n_T_initG (defScope s_T_initG) 0 "self" = true ∧ nvB n_T_initG (defScope s_T_initG) 1 "kinds" = true ∧ nvB n_T_initG (defScope s_T_initG) 2 "rows" = true ∧ nvB n_T_initG (defScope s_T_initG) 3 "links" = true ∧ nvB n_T_initG (defScope s_T_initG) 4 "marks" = true ∧ nvB n_T_initG (defScope s_T_initG) 5 "x" = true ∧ nvB n_T_initG (defScope s_T_initG) 6 "kind" = true ∧ nvB n_T_initG (defScope s_T_initG) 7 "row" = true ∧ nvB n_T_initG (defScope s_T_initG) 8 "other" = true ∧ lvB n_T_initG (defScope s_T_initG) 4 "marks" = true ∧ lvB n_T_initG (defScope s_T_initG) 5 "x" = true ∧ lvB n_T_initG (defScope s_T_initG) 6 "kind" = true ∧ lvB n_T_initG (defScope s_T_initG) 7 "row" = true ∧ lvB n_T_initG (defScope s_T_initG) 8 "other" = true ∧ gvB (defScope s_T_initG) "checked_kinds" = true := by decide +kernel
theorem bd_T_initG {Γ : Gm} {C : Addr} (T : Names Γ) {gp : Addr} (L : KT Γ C) (c_checked_kinds : Cl Γ CX0 2 "checked_kinds" (spChk Γ.K) []) (m_put : MkB Γ 2 C "put" gp ["x"] (spPutK Γ.K C)) (m_link : Mt Γ CX0 8 C "link" (spLink Γ.K C) []) (f : Addr) (cdv : Value) (A : Around) (outer : List Env) (s : Shared) (H : Hp) (vs : List V) (Q : VK) (E : XK) (hg : Good (Γ.at (10)) (cxOf CX0 Γ.P Γ.w Γ.K Γ.mg Γ.base n_T_initG "Table.__init__" (defScope s_T_initG) f cdv A outer s H E).nox) (h : (spTInitG Γ.K C) vs H Q E) :
    ∃ t, PSs (cxOf CX0 Γ.P Γ.w Γ.K Γ.mg Γ.base n_T_initG "Table.__init__" (defScope s_T_initG) f cdv A outer s H E).nox (defBody s_T_initG) t ∧ t { nx := fun _ H' => Q .non H', rt := Q } (L2.start n_T_initG vs) H := by
  obtain ⟨x, dx, p, r, l, b, b1, b2, zs, rts, rws, lts, ls, rfl, hx, hz, nz, nd0, lz, nrx, nlx, hr, hrw, nrw, lrw, hl, hlk, lok, lls, kq⟩ := h
  have nd := sc_T_initG.nd
  obtain ⟨v0, v1, v2, v3, v4, v5, v6, v7, v8, l4, l5, l6, l7, l8, g_checked_kinds⟩ := nm_T_initG
  refine ⟨_, (C8.pss_cut (ps_fld (ps 0 v0) (pcl c_checked_kinds hg (by omega) g_checked_kinds pass0 (pa_cons (ps 1 v1) pa_nil)) rfl)
    (C8.pss_cut (ps_fld (ps 0 v0) (pe_dc (own := [("kind", 6)]) rfl nd (pi_t hg (pe_at (WA.ok hg) (ps 0 v0))) (blkOk_by (N := n_T_initG) (sc := defScope s_T_initG) (by decide +kernel)) (fun _ _ _ _ _ => (pg_name (i := 6) nd rfl (by first | exact .inl rfl | exact .inr rfl))) (fun _ _ _ _ _ => pts_nil) (fun _ _ _ _ _ => (psr 6)) (fun _ _ _ _ _ => pe_dnewK)) rfl)
    (C8.pss_cut (ps_fld (ps 0 v0) (pe_dc (own := [("kind", 6)]) rfl nd (pi_t hg (pe_at (WA.ok hg) (ps 0 v0))) (blkOk_by (N := n_T_initG) (sc := defScope s_T_initG) (by decide +kernel)) (fun _ _ _ _ _ => (pg_name (i := 6) nd rfl (by first | exact .inl rfl | exact .inr rfl))) (fun _ _ _ _ _ => pts_nil) (fun _ _ _ _ _ => (psr 6)) (fun _ _ _ _ _ => pe_dnewK)) rfl)
    (pss_cons (ps_fld (ps 0 v0) (pe_lst pa_nil) rfl)
    (C8.pss_cut (ps_fld (ps 0 v0) (pe_lst pa_nil) rfl)
    (pss_cons (ps_for PassesOwn.never rfl (pi_lt hg (ps 2 v2)) (pg_sK hg 2 rfl (pgs_c (pgn (i := 4) nd l4) (pgs_c (pgn (i := 5) nd l5) pgs_0)))
    (pss_one (ps_expr (pe_mkS hg (ps 0 v0) (ps 4 v4) (pk_cons (ps 5 v5) pk_nil)))))
    (pss_one (ps_for PassesOwn.never rfl (pi_lt hg (ps 3 v3)) (pg_sK hg 3 rfl (pgs_c (pgn (i := 6) nd l6) (pgs_c (pgn (i := 7) nd l7) (pgs_c (pgn (i := 8) nd l8) pgs_0))))
    (pss_one (ps_expr (pe_mw hg (ps 0 v0) (pa_cons (ps 6 v6) (pa_cons (ps 7 v7) (pa_cons (ps 8 v8) pa_nil)))))))))))))), ?_⟩
  refine st_start (σ := [some _, some _, some _, some _, none, none, none, none, none]) rfl ?_
  walk_at "dn"
  have s0 : SS (EC Γ C) H [x] H [] [cellR x (.ins C dx [])] := SS.cell1 hx ins_mut
  have dcK : ∀ (q : Addr) (ys : List Str) (H1 : Hp) (F : List (PF (EC Γ C))) (R : List (RS (EC Γ C))) (fs : List (Str × V)) (Q' : VK), Asc ys → ys.length ≤ 20 → fs.lookup (Str.ofString "sorts") = some (V.ref q) → SS (EC Γ C) H [x] H1 F R → cellR x (.ins C dx fs) ∈ R → tupF q (ys.map V.str) ∈ F →
      (∀ D qs H2, qs.length = ys.length → SS (EC Γ C) H [x] H2 F (cells (.dK []) qs.reverse ++ cellR D (.dK (kdK ys qs)) :: R) → Q' (.ref D) H2) →
      tDc (iTup Γ.K (tUn (WA (Γ.at 10) "sorts") (tS 0))) (gName 6) tYes (tS 6) tDNewK [6] [some (V.ref x), some (V.ref p), some (V.ref r), some (V.ref l), none, none, none, none, none] H1 Q' := by
    intro q ys H1 F R fs Q' ay ly hl s hm hq k
    refine wa_fld (Γ := Γ.at 10) L.k.cls L.n1 (s.cell hm) hl ⟨q, rfl, ⟨_, s.tup hq⟩, fun D hD => ?_⟩
    refine dc_tup (xs := ys.map V.str) (fun i H' => ∃ qs, qs.length = i ∧ SS (EC Γ C) H [x] H' F (cells (.dK []) qs.reverse ++ cellR D (.dK (kdK (ys.take i) qs)) :: R)) ⟨[], rfl, s.newC (o := .dK []) hD (fun z => z)⟩ (fun i H' _ ⟨_, _, s⟩ => s.tup hq) ?_ ?_
    · rintro i y H2 hy ⟨qs, lq, s2⟩
      rw [List.getElem?_map] at hy
      obtain ⟨z, hz1, rfl⟩ := Option.map_eq_some_iff.mp hy
      have hi := (List.getElem?_eq_some_iff.mp hz1).1
      walk_at "dn"
      refine ⟨rfl, ?_⟩
      rw [if_pos rfl]
      intro d hd
      have s3 := s2.newC (o := .dK []) hd (fun z => z)
      have hn : z ∉ ys.take i := fun h => by
        obtain ⟨j, hj, e⟩ := List.mem_iff_getElem.mp h
        rw [List.length_take] at hj
        have h1 : ys[j]? = some z := by rw [← e, List.getElem_take]; exact List.getElem?_eq_getElem (by omega)
        have h2 : ys[j]? = ys[i]? := h1.trans hz1.symm
        have := (List.getElem?_inj (by omega) ay.nd).mp h2
        omega
      refine ⟨kdK (ys.take i) qs, Sum.inr z, rfl, s3.cell (p := D) (b := false) (.tail _ (List.mem_append_right _ (.head _))), lt_size (by unfold kdK; rw [List.length_map, List.length_zip]; omega), qs ++ [d], by rw [List.length_append, lq]; rfl, ?_⟩
      rw [putK_new _ (valK_none hn), ← kdK_snoc (by rw [List.length_take, lq]; omega), show ys.take i ++ [z] = ys.take (i + 1) from by rw [List.take_add_one, hz1]; rfl]
      have s4 := s3.put (p := D) (u := .dK (kdK (ys.take (i + 1)) (qs ++ [d]))) (.next Pick.app) (fun z => z)
      rw [List.reverse_append]
      exact s4
    · rintro H2 ⟨qs, lq, s2⟩
      rw [List.length_map] at lq s2
      rw [List.take_length] at s2
      exact k D qs H2 lq s2
  -- sorts
  refine ⟨fun σ' H1 => ∃ (q : Addr) (ys : List Str), σ' = [some (V.ref x), some (V.ref p), some (V.ref r), some (V.ref l), none, none, none, none, none] ∧ Asc ys ∧ ys.length ≤ 20 ∧ (∀ z, z ∈ ys ↔ z ∈ zs) ∧ SS (EC Γ C) H [x] H1 [tupF q (ys.map V.str)] [cellR x (.ins C dx [("sorts", .ref q)])], ?_, ?_⟩
  · refine ⟨p, b, zs, rfl, hz, nz, nd0, lz, fun q ys H1 s1 hq ay hm => ?_⟩
    refine ⟨x, C, dx, [], rfl, s1 _ _ hx, L.k.cls, L.n1, by simp only [List.length_cons, List.length_nil]; omega, q, ys, rfl, ay, Nat.le_trans (nodup_len _ _ ay.nd fun z hz => (hm z).mp hz) lz, hm, ?_⟩
    exact ((s0.same s1).put (u := .ins C dx [("sorts", .ref q)]) .here ins_mut).add (tupF q (ys.map V.str)) (sqt_fr1 hq (Fr.upd (.head _)) (s1 _ _ hx))
  rintro σ' H1 ⟨q, ys, rfl, ay, ly, hm, s1⟩
  -- nexts
  refine ⟨fun σ' H2 => ∃ (D1 : Addr) (qs : List Addr), σ' = [some (V.ref x), some (V.ref p), some (V.ref r), some (V.ref l), none, none, none, none, none] ∧ qs.length = ys.length ∧ SS (EC Γ C) H [x] H2 [tupF q (ys.map V.str)] (cells (.dK []) qs.reverse ++ [cellR D1 (.dK (kdK ys qs)), cellR x (.ins C dx [("sorts", .ref q), ("nexts", .ref D1)])]), ?_, ?_⟩
  · refine dcK q ys H1 _ _ _ _ ay ly rfl s1 (.head _) (.head _) fun D1 qs H2 lq s2 => ?_
    walk_at "dn"
    refine ⟨x, C, dx, [("sorts", .ref q)], rfl, s2.cell (p := x) (b := false) (List.mem_append_right _ (.tail _ (.head _))), L.k.cls, L.n2, by simp only [List.length_cons, List.length_nil]; omega, D1, qs, rfl, lq, ?_⟩
    have e : cells (.dK []) qs.reverse ++ [cellR D1 (.dK (kdK ys qs)), cellR x (.ins C dx [("sorts", .ref q)])] = (cells (E := EC Γ C) (.dK []) qs.reverse ++ [cellR D1 (.dK (kdK ys qs))]) ++ [cellR x (.ins C dx [("sorts", .ref q)])] := by rw [List.append_assoc]; rfl
    have e' : cells (.dK []) qs.reverse ++ [cellR D1 (.dK (kdK ys qs)), cellR x (.ins C dx [("sorts", .ref q), ("nexts", .ref D1)])] = (cells (E := EC Γ C) (.dK []) qs.reverse ++ [cellR D1 (.dK (kdK ys qs))]) ++ [cellR x (.ins C dx [("sorts", .ref q), ("nexts", .ref D1)])] := by rw [List.append_assoc]; rfl
    rw [e] at s2
    rw [e']
    exact s2.put (u := .ins C dx [("sorts", .ref q), ("nexts", .ref D1)]) Pick.app ins_mut
  rintro σ' H2 ⟨D1, qs, rfl, lq, s2⟩
  -- befores
  refine ⟨fun σ' H3 => ∃ (D2 : Addr) (rs : List Addr), σ' = [some (V.ref x), some (V.ref p), some (V.ref r), some (V.ref l), none, none, none, none, none] ∧ rs.length = ys.length ∧ SS (EC Γ C) H [x] H3 [tupF q (ys.map V.str)] (cells (.dK []) rs.reverse ++ cellR D2 (.dK (kdK ys rs)) :: (cells (.dK []) qs.reverse ++ [cellR D1 (.dK (kdK ys qs)), cellR x (.ins C dx [("sorts", .ref q), ("nexts", .ref D1), ("befores", .ref D2)])])), ?_, ?_⟩
  · refine dcK q ys H2 _ _ _ _ ay ly rfl s2 (List.mem_append_right _ (.tail _ (.head _))) (.head _) fun D2 rs H3 lr s3 => ?_
    walk_at "dn"
    refine ⟨x, C, dx, [("sorts", .ref q), ("nexts", .ref D1)], rfl, s3.cell (p := x) (b := false) (List.mem_append_right _ (.tail _ (List.mem_append_right _ (.tail _ (.head _))))), L.k.cls, L.n3, by simp only [List.length_cons, List.length_nil]; omega, D2, rs, rfl, lr, ?_⟩
    have ee : ∀ o : HO, cells (.dK []) rs.reverse ++ cellR D2 (.dK (kdK ys rs)) :: (cells (.dK []) qs.reverse ++ [cellR D1 (.dK (kdK ys qs)), cellR x o]) = (cells (E := EC Γ C) (.dK []) rs.reverse ++ cellR D2 (.dK (kdK ys rs)) :: (cells (.dK []) qs.reverse ++ [cellR D1 (.dK (kdK ys qs))])) ++ [cellR x o] := fun o => by simp
    rw [ee] at s3 ⊢
    exact s3.put (u := .ins C dx [("sorts", .ref q), ("nexts", .ref D1), ("befores", .ref D2)]) Pick.app ins_mut
  rintro σ' H3 ⟨D2, rs, rfl, lr, s3⟩
  -- facts, numbers
  refine ⟨szl (by simp only [List.length_nil]; omega), fun pf hpf => ?_⟩
  walk_at "di"
  have s4 := s3.newC (o := .lst []) hpf (fun z => z)
  refine ⟨x, C, dx, [("sorts", .ref q), ("nexts", .ref D1), ("befores", .ref D2)], rfl, s4.cell (p := x) (b := false) (.tail _ (List.mem_append_right _ (.tail _ (List.mem_append_right _ (.tail _ (.head _)))))), L.k.cls, L.n4, by simp only [List.length_cons, List.length_nil]; omega, ?_⟩
  have ee : ∀ o : HO, cells (.dK []) rs.reverse ++ cellR D2 (.dK (kdK ys rs)) :: (cells (.dK []) qs.reverse ++ [cellR D1 (.dK (kdK ys qs)), cellR x o]) = (cells (E := EC Γ C) (.dK []) rs.reverse ++ cellR D2 (.dK (kdK ys rs)) :: (cells (.dK []) qs.reverse ++ [cellR D1 (.dK (kdK ys qs))])) ++ [cellR x o] := fun o => by simp
  rw [ee] at s4
  have s5 := s4.put (u := .ins C dx [("sorts", .ref q), ("nexts", .ref D1), ("befores", .ref D2), ("facts", .ref pf)]) (.next Pick.app) ins_mut
  refine ⟨fun σ' H4 => σ' = [some (V.ref x), some (V.ref p), some (V.ref r), some (V.ref l), none, none, none, none, none] ∧ ∃ pm, SS (EC Γ C) H [x] H4 [tupF q (ys.map V.str)] (cellR pm (.lst []) :: cellR pf (.lst []) :: (cells (.dK []) rs.reverse ++ cellR D2 (.dK (kdK ys rs)) :: (cells (.dK []) qs.reverse ++ [cellR D1 (.dK (kdK ys qs)), cellR x (.ins C dx [("sorts", .ref q), ("nexts", .ref D1), ("befores", .ref D2), ("facts", .ref pf), ("numbers", .ref pm)])]))), ?_, ?_⟩
  · refine ⟨szl (by simp only [List.length_nil]; omega), fun pm hpm => ?_⟩
    walk_at "di"
    have s6 := s5.newC (o := .lst []) hpm (fun z => z)
    refine ⟨x, C, dx, [("sorts", .ref q), ("nexts", .ref D1), ("befores", .ref D2), ("facts", .ref pf)], rfl, s6.cell (p := x) (b := false) (.tail _ (.tail _ (List.mem_append_right _ (.head _)))), L.k.cls, L.n5, by simp only [List.length_cons, List.length_nil]; omega, rfl, pm, ?_⟩
    rw [ee]
    exact s6.put (u := .ins C dx [("sorts", .ref q), ("nexts", .ref D1), ("befores", .ref D2), ("facts", .ref pf), ("numbers", .ref pm)]) (.next (.next Pick.app)) ins_mut
  rintro σ' H4 ⟨rfl, pm, s6⟩
  obtain ⟨ht, hfr⟩ := made_tb s6 (s6.tup (.head _)) ay lq lr
  walk_at "dn"
  have frx : ∀ {H5 H6 : Hp}, Fr [x] H H5 → Fr (⟨x, dx, q, D1, D2, pf, pm, qs, rs⟩ : TAd).fp H5 H6 → Fr [x] H H6 := fun f g a o n e => g a o (fun z => by have := hfr a z; rw [e] at this; cases this) (f a o n e)
  have sb : ∀ {H5 : Hp} {t : Addr} {xs : List V} {c : Bool}, (c = true → t ≠ x) → SqB Γ.K H t xs c → Fr [x] H H5 → SqB Γ.K H5 t xs c := fun {H5 t xs c} n h f => by
    cases c with
    | true => exact f.sql h (fun z => n rfl (List.mem_singleton.mp z))
    | false => exact sqt_fr1 h f hx
  have st : ∀ {H5 : Hp} {t : Addr} {xs : List V}, SqT Γ.K H t xs → Fr [x] H H5 → SqT Γ.K H5 t xs := fun h f => sqt_fr1 h f hx
  have se : ∀ {H5 : Hp} {t : Addr} {xs : List V}, SqE Γ.K H t xs → Fr [x] H H5 → SqE Γ.K H5 t xs := fun h f => sqe_fr1 h f hx
  have rep : ∀ {α : Type} (v : α), List.replicate ys.length v = ys.map fun _ => v := fun v => List.map_const'.symm
  have lb : ys.length ≤ 20 := ly
  refine ⟨b1, r, rfl, ⟨_, sb nrx hr s6.fr⟩, ?_⟩
  refine lp_lt (xs := rts.map V.ref) b1 (fun i σ H' => ∃ (c4 c5 : Option V) (B : Tb), σ = [some (V.ref x), some (V.ref p), some (V.ref r), some (V.ref l), c4, c5, none, none, none] ∧ TbP Γ.K C ⟨x, dx, q, D1, D2, pf, pm, qs, rs⟩ B H' ∧ Fr [x] H H' ∧ B.ks = ys ∧ B.nx = List.replicate ys.length [] ∧ B.bf = List.replicate ys.length [] ∧ RowsR B.rows (rws.take i)) ⟨none, none, _, rfl, ht, s6.fr, rfl, rfl, rfl, rfl, fun i r r' h => by simp at h⟩ (fun i σ H' _ ⟨_, _, _, _, _, f, _⟩ => sb nrx hr f) ?_ ?_
  · rintro i y σ H5 hy ⟨c4, c5, B, rfl, t5, f5, k5, x5, b5, r5⟩
    rw [List.getElem?_map] at hy
    obtain ⟨rt, hrt, rfl⟩ := Option.map_eq_some_iff.mp hy
    have hi := (List.getElem?_eq_some_iff.mp hrt).1
    have hl2 := hrw.len
    obtain ⟨u, hu⟩ : ∃ u, rws[i]? = some u := ⟨_, List.getElem?_eq_getElem (by omega)⟩
    obtain ⟨m, h1, h2⟩ := hrw.at_ i rt u hrt hu
    refine gs_of (se h1 f5) rfl ?_
    walk_at "dn"
    walk_at "dd"
    have lr5 : B.rows.length = i := by rw [r5.1, List.length_take]; omega
    refine ⟨2, C, x, dx, gp, _, spPutK Γ.K C, E0, ⟨m_put.fn, m_put.c, m_put.b⟩, by omega, rfl, t5.ins, by rfl, fun qb hqb => ⟨m, rfl, _, se h2 (frx f5 (Fr.of (Same.mk hqb))), upd_same, rfl, ?_⟩⟩
    obtain ⟨nu, l60⟩ := nrw u (List.mem_of_getElem? hu)
    refine ⟨_, B, u.2, u.1, rfl, rfl, t5.same (Same.mk hqb), nu, l60, by omega, fun ws H6 az hm6 f6 t6 => ?_⟩
    refine ⟨_, _, _, rfl, t6, frx f5 ((Fr.of (Same.mk hqb)).trans f6), k5, x5, b5, ?_, fun j v v' e1 e2 => ?_⟩
    · show (B.rows ++ [(ws, u.2)]).length = _
      rw [List.length_append, List.length_singleton, List.length_take]; omega
    · have e1 : (B.rows ++ [(ws, u.2)])[j]? = some v := e1
      rw [List.take_add_one, hu] at e2
      have lt : (rws.take i).length = i := by rw [List.length_take]; omega
      by_cases hj : j < i
      · rw [List.getElem?_append_left (by omega)] at e1 e2
        exact r5.2 j v v' e1 e2
      · rw [List.getElem?_append_right (by omega)] at e1 e2
        have hj2 : j = i := by
          have := (List.getElem?_eq_some_iff.mp e1).1
          simp only [List.length_singleton] at this
          omega
        subst hj2
        rw [lr5, Nat.sub_self] at e1
        rw [lt, Nat.sub_self] at e2
        obtain rfl : (ws, u.2) = v := by simpa using e1
        obtain rfl : u = v' := by simpa using e2
        exact ⟨rfl, hm6⟩
  rintro σ H5 ⟨c4, c5, B, rfl, t5, f5, k5, x5, b5, r5⟩
  rw [List.length_map, hrw.len, List.take_length] at r5
  walk_at "dn"
  refine ⟨b2, l, rfl, ⟨_, sb nlx hl f5⟩, ?_⟩
  refine lp_lt (xs := lts.map V.ref) b2 (fun i σ H' => ∃ (c6 c7 c8 : Option V) (B : Tb), σ = [some (V.ref x), some (V.ref p), some (V.ref r), some (V.ref l), c4, c5, c6, c7, c8] ∧ TbP Γ.K C ⟨x, dx, q, D1, D2, pf, pm, qs, rs⟩ B H' ∧ Fr [x] H H' ∧ B.ks = ys ∧ B.nx = ys.map (fun k => lkm k (ls.take i)) ∧ B.bf = ys.map (fun k => swp (lkm k (ls.take i))) ∧ RowsR B.rows rws) ⟨none, none, none, _, rfl, t5, f5, k5, by rw [x5, rep]; rfl, by rw [b5, rep]; rfl, r5⟩ (fun i σ H' _ ⟨_, _, _, _, _, _, f, _⟩ => sb nlx hl f) ?_ ?_
  · rintro j y σ H6 hy ⟨c6, c7, c8, B6, rfl, t6, f6, k6, x6, b6, r6⟩
    rw [List.getElem?_map] at hy
    obtain ⟨lt, hlt, rfl⟩ := Option.map_eq_some_iff.mp hy
    have hj := (List.getElem?_eq_some_iff.mp hlt).1
    have hl2 := hlk.len
    obtain ⟨e, he⟩ : ∃ e, ls[j]? = some e := ⟨_, List.getElem?_eq_getElem (by omega)⟩
    have h1 := hlk.at_ j lt e hlt he
    obtain ⟨k, ro, o⟩ := e
    refine gs_of (se h1 f6) rfl ?_
    walk_at "dn"
    have hkz : k ∈ zs := lok.k _ (List.mem_of_getElem? he)
    obtain ⟨i, hi⟩ := List.mem_iff_getElem?.mp ((hm k).mpr hkz)
    obtain ⟨t, hsp⟩ := lkm_split he (rfl : k = k)
    have hI := lok.i k hkz
    rw [hsp] at hI
    obtain ⟨pI, p1, p2, p3, p4, p5⟩ := lki_pre hI
    have ln : (lkm k (ls.take j)).length < 1000 := by
      unfold lkm
      rw [List.length_map]
      have := List.length_filter_le (fun e : Lk => decide (e.1 = k)) (ls.take j)
      rw [List.length_take] at this
      omega
    have ls' : (swp (lkm k (ls.take j))).length < 1000 := by unfold swp; rw [List.length_map]; exact ln
    have hlr : B6.rows.length = rws.length := r6.1
    have htk : ls.take (j + 1) = ls.take j ++ [(k, ro, o)] := by rw [List.take_add_one, he]; rfl
    refine ⟨8, C, x, dx, _, spLink Γ.K C, [], E0, ⟨m_link.ex⟩, by omega, rfl, t6.ins, by rfl, _, B6, k, i, ro, o, lkm k (ls.take j), swp (lkm k (ls.take j)), rfl, t6, ⟨by rw [k6]; exact hi, by rw [x6, List.getElem?_map, hi]; rfl, by rw [b6, List.getElem?_map, hi]; rfl⟩, by rw [hlr]; exact pI, by omega, by omega, p3, p4, p5, by omega, by omega, fun H7 f7 t7 => ?_⟩
    refine ⟨_, _, _, _, rfl, t7, frx f6 f7, k6, ?_, ?_, r6⟩
    · show B6.nx.set i _ = _
      rw [x6]
      have := map_upd (f := fun k => lkm k (ls.take j)) (g := fun k => lkm k (ls.take (j + 1))) ay.nd hi fun k' ne => by
        rw [htk, lkm_app, lkm_oth (e := (k, ro, o)) (Ne.symm ne), List.append_nil]
      rw [← this, htk, lkm_app, lkm_one (e := (k, ro, o)) rfl]
    · show B6.bf.set i _ = _
      rw [b6]
      have := map_upd (f := fun k => swp (lkm k (ls.take j))) (g := fun k => swp (lkm k (ls.take (j + 1)))) ay.nd hi fun k' ne => by
        rw [htk, lkm_app, lkm_oth (e := (k, ro, o)) (Ne.symm ne), List.append_nil]
      rw [← this, htk, lkm_app, lkm_one (e := (k, ro, o)) rfl, swp_app]
      rfl
  rintro σ H6 ⟨c6, c7, c8, B6, rfl, t6, f6, k6, x6, b6, r6⟩
  rw [List.length_map, hlk.len, List.take_length] at x6 b6
  exact kq _ B6 H6 rfl f6 hfr t6 r6 (by rw [x6, k6]) (by rw [b6, k6]) (fun z => by rw [k6]; exact hm z)
/-- Table(kinds, rows, links) -/
theorem mk_initG {Γ : Gm} {C d1 d2 f gp : Addr} {fd : FuncData} (T : Names Γ) (L : KT Γ C) (c : Cl Γ CX0 2 "checked_kinds" (spChk Γ.K) []) (m_put : MkB Γ 2 C "put" gp ["x"] (spPutK Γ.K C)) (m_link : Mt Γ CX0 8 C "link" (spLink Γ.K C) []) (F : FunD Γ.K "__init__" "Table.__init__" (defArgs s_T_initG) (defBody s_T_initG) (defScope s_T_initG) [.ref d1, .ref d2] [] f fd) (mk : Mk Γ.K C f) (hmg : Γ.mg "Table" = some (.ref C)) :
    Mkr Γ CX0 11 "Table" C (spTInitG Γ.K C) [] ∧ Mkr Γ CX0 11 "Table" C (spTInitG Γ.K C) [.ref d1, .ref d2] := by
  have ok := F.ok (P := Γ.P) (w := Γ.w) (mg := Γ.mg) (base := Γ.base) (CX := CX0) (k := 10) sc_T_initG (sp := spTInitG Γ.K C) (fun vs H Q E h => by
    obtain ⟨x, dx, p, r, l, b, b1, b2, zs, rts, rws, lts, ls, e, _⟩ := h
    rw [e]; rfl) fun cdv A outer s H vs Q E hr h => by
    obtain ⟨t, h1, h2⟩ := bd_T_initG T L c m_put m_link f cdv A outer s H vs Q E (Good.of hr).nox h
    exact ⟨t, h1.nox, h2⟩
  obtain ⟨ds, v, b⟩ := FunD.binds1 (ps := ["self", "kinds", "rows", "links"]) F 2 0 (by simp) rfl fun T kV doc pm an cdv ct us its h1 h2 => match us, h1, its, h2 with
    | [_, _], _, [_, _], _ => ⟨_, rfl, rfl⟩
  obtain ⟨ds2, v2, b2⟩ := FunD.binds1 (ps := ["self", "kinds", "rows", "links"]) F 4 2 (by simp) rfl fun T kV doc pm an cdv ct us its h1 h2 => match us, h1, its, h2 with
    | [_, _, _, _], _, [_, _], _ => ⟨_, rfl, rfl⟩
  exact ⟨⟨f, fd, _, ds2, ok, mk, hmg, b2, v2⟩, ⟨f, fd, _, ds, ok, mk, hmg, b, v⟩⟩
theorem init_fg {Γ : Gm} {C : Addr} (vs : List V) (H : Hp) (Q : VK) (E : XK) (h : spTInitF Γ.K C vs H Q E) : spTInitG Γ.K C vs H Q E := by
  obtain ⟨x, dx, p, r, l, b, b1, b2, zs, rts, rws, lts, ls, e, h1, h2, h3, h4, h5, h6, h7, h8, h9, h10, h11, h12, h13, h14⟩ := h
  exact ⟨x, dx, p, r, l, b, b1, b2, zs, rts, rws, lts, ls, e, h1, h2, h3, h4, h5, h6, h7, h8, h9.g, h10, h11, h12, h13.g, h14⟩
theorem mk_initGk {Γ : Gm} {C d1 d2 f gp : Addr} {fd : FuncData} (T : Names Γ) (L : KT Γ C) (c : Cl Γ CX0 2 "checked_kinds" (spChk Γ.K) []) (m_put : MkB Γ 2 C "put" gp ["x"] (spPutK Γ.K C)) (m_link : Mt Γ CX0 8 C "link" (spLink Γ.K C) []) (F : FunD Γ.K "__init__" "Table.__init__" (defArgs s_T_initG) (defBody s_T_initG) (defScope s_T_initG) [.ref d1, .ref d2] [] f fd) (mk : Mk Γ.K C f) (hmg : Γ.mg "Table" = some (.ref C)) :
    Mkrk Γ CX0 11 "Table" C (spTInitG Γ.K C) 1 ["links", "rows"] gV2 := by
  have ok := F.ok (P := Γ.P) (w := Γ.w) (mg := Γ.mg) (base := Γ.base) (CX := CX0) (k := 10) sc_T_initG (sp := spTInitG Γ.K C) (fun vs H Q E h => by
    obtain ⟨x, dx, p, r, l, b, b1, b2, zs, rts, rws, lts, ls, e, _⟩ := h
    rw [e]; rfl) fun cdv A outer s H vs Q E hr h => by
    obtain ⟨t, h1, h2⟩ := bd_T_initG T L c m_put m_link f cdv A outer s H vs Q E (Good.of hr).nox h
    exact ⟨t, h1.nox, h2⟩
  obtain ⟨its, kb⟩ := FunD.kbindsD (ps := ["self", "kinds", "rows", "links"]) F 2 ["links", "rows"] (fun us its ws => gK2 us its ws) (by simp) (fun {vs ds zs us its ws} a b c => by
    unfold gK2
    cases c with
    | nil => exact a
    | cons c1 c2 =>
      cases c2 with
      | nil => exact a
      | cons c3 c4 =>
        cases c4 with
        | nil => exact a.append (.cons c3 (.cons c1 .nil))
        | cons _ _ => exact a) fun T kV doc pm an cdv ct us its ws h1 h2 h3 => match us, h1, its, h2, ws, h3 with
    | [_, _], _, [_, _], _, [_, _], _ => ⟨_, rfl, rfl⟩
  exact ⟨f, fd, _, _, ok, mk, hmg, kb⟩
theorem ixK_some {ks : List Str} {k : Str} {i : Nat} (h : ixK ks k = some i) : ks[i]? = some k := by
  unfold ixK at h
  obtain ⟨hi, h2, _⟩ := List.findIdx?_eq_some_iff_getElem.mp h
  rw [List.getElem?_eq_getElem hi]
  exact congrArg some (of_decide_eq_true h2)
theorem ixK_none {ks : List Str} {k : Str} : ixK ks k = none ↔ k ∉ ks := by
  unfold ixK
  rw [List.findIdx?_eq_none_iff]
  exact ⟨fun h hm => by have := h k hm; simp at this, fun h z hz => decide_eq_false fun e => h (e ▸ hz)⟩
section
variable {B : Tb} {k : Str} {d : Int} {r o : Nat}
theorem stepB_none (h : k ∉ B.ks) : stepB B k d r = none := by
  unfold stepB
  rw [ixK_none.mpr h]
theorem stepB_some {i : Nat} {m b : Mp} (h : ixK B.ks k = some i) (ak : AtK B k i m b) : stepB B k d r = if 0 < d then nxt m r else nxt b r := by
  unfold stepB
  rw [h]
  dsimp only
  rw [ak.x, ak.b]
  rfl
theorem stepB_lt (h : TbL B) (e : stepB B k d r = some o) : r < B.rows.length ∧ o < B.rows.length := by
  cases hi : ixK B.ks k with
  | none =>
    unfold stepB at e
    rw [hi] at e
    cases e
  | some i =>
    obtain ⟨m, b, ak, lI⟩ := h.at_ (ixK_some hi)
    rw [stepB_some hi ak] at e
    split at e
    · exact lI.lt r o (nxt_mem e)
    · exact (lI.lt o r ((lI.inv o r).mpr (nxt_mem e))).symm
theorem Tr.ev_lt (h : TbL B) : ∀ (t : Tr) (r o : Nat), r < B.rows.length → (Tr.ev B t r).1 = some o → o < B.rows.length := by
  intro t
  induction t with
  | z w => intro r o hr e; cases e; exact hr
  | st k d => intro r o hr e; exact (stepB_lt h e).2
  | mk k => intro r o hr e; cases e
  | one w a ih => intro r o hr e; unfold Tr.ev at e; split at e <;> cases e
  | two w a b iha ihb =>
    intro r o hr e
    unfold Tr.ev at e
    dsimp only at e
    split at e
    · dsimp only at e
      split at e
      · exact iha r o hr e
      · cases e
    split at e
    · dsimp only at e
      split at e
      · cases e
      · rename_i x hx
        exact ihb x o (iha r x hr hx) e
    split at e
    · dsimp only at e
      split at e
      · rename_i x hx
        cases e
        exact iha r o hr hx
      · exact ihb r o hr e
    split at e
    · dsimp only at e
      split at e
      · exact iha r o hr e
      · cases e
    split at e <;> cases e
end
section
variable {B : Tb} {w : Str} {a b : Tr} {r : Nat}
theorem ev_when (h : w = Str.ofString "when") : (Tr.ev B (.two w a b) r).1 = if (Tr.ev B b r).2 = true then (Tr.ev B a r).1 else none := by
  conv => lhs; unfold Tr.ev
  dsimp only
  rw [if_pos h]
theorem ev_then (h : w = Str.ofString "then") : (Tr.ev B (.two w a b) r).1 = match (Tr.ev B a r).1 with
    | none => none
    | some o => (Tr.ev B b o).1 := by
  conv => lhs; unfold Tr.ev
  dsimp only
  rw [if_neg (by rw [h]; decide +kernel), if_pos h]
  try rfl
theorem ev_or (h : w = Str.ofString "or") : Tr.ev B (.two w a b) r = (match (Tr.ev B a r).1 with
    | some o => some o
    | none => (Tr.ev B b r).1, (Tr.ev B a r).2 || (Tr.ev B b r).2) := by
  conv => lhs; unfold Tr.ev
  dsimp only
  rw [if_neg (by rw [h]; decide +kernel), if_neg (by rw [h]; decide +kernel), if_pos h]
  try rfl
theorem ev_and (h : w = Str.ofString "and") : Tr.ev B (.two w a b) r = (if (Tr.ev B a r).1 = (Tr.ev B b r).1 then (Tr.ev B a r).1 else none, (Tr.ev B a r).2 && (Tr.ev B b r).2) := by
  conv => lhs; unfold Tr.ev
  dsimp only
  rw [if_neg (by rw [h]; decide +kernel), if_neg (by rw [h]; decide +kernel), if_neg (by rw [h]; decide +kernel), if_pos h]
theorem ev_same (h : w = Str.ofString "same") : (Tr.ev B (.two w a b) r).2 = ((Tr.ev B a r).1.isSome && decide ((Tr.ev B a r).1 = (Tr.ev B b r).1)) := by
  conv => lhs; unfold Tr.ev
  dsimp only
  rw [if_neg (by rw [h]; decide +kernel), if_neg (by rw [h]; decide +kernel), if_neg (by rw [h]; decide +kernel), if_neg (by rw [h]; decide +kernel), if_pos h]
theorem ev_xor (h : w = Str.ofString "xor") : (Tr.ev B (.two w a b) r).2 = ((Tr.ev B a r).2 != (Tr.ev B b r).2) := by
  conv => lhs; unfold Tr.ev
  dsimp only
  rw [if_neg (by rw [h]; decide +kernel), if_neg (by rw [h]; decide +kernel), if_neg (by rw [h]; decide +kernel), if_neg (by rw [h]; decide +kernel), if_neg (by rw [h]; decide +kernel)]
theorem ev_found (h : w = Str.ofString "found") : (Tr.ev B (.one w a) r).2 = (Tr.ev B a r).1.isSome := by
  conv => lhs; unfold Tr.ev
  rw [if_pos h]
theorem ev_not (h : w = Str.ofString "not") : (Tr.ev B (.one w a) r).2 = !(Tr.ev B a r).2 := by
  conv => lhs; unfold Tr.ev
  rw [if_neg (by rw [h]; decide +kernel)]
end
def tst : Bool → Option Nat × Bool → V
  | false, x => oV x.1
  | true, x => .bl x.2
/-- what a formula answers at a row -/
def spAt (K : PySem.W.Frag) (C : Addr) (b : Bool) (d : Nat) : Sp := fun vs H Q _ => ∃ (p : Addr) (t : Tr) (ks ms : List Str) (A : TAd) (B : Tb) (r : Nat), vs = [.ref p, .ref A.a, .int r] ∧ TrP K H t p ∧ t.wf ks ms b ∧ t.dep ≤ d ∧ TbP K C A B H ∧ TbL B ∧ r < B.rows.length ∧ ∀ H', Same H H' → Q (tst b (Tr.ev B t r)) H'
def spCall (K : PySem.W.Frag) (C CL : Addr) (b : Bool) (d : Nat) : Sp := fun vs H Q _ => ∃ (a : Addr) (t : Tr) (ks ms : List Str) (A : TAd) (B : Tb) (r : Nat), vs = [.ref a, .ref A.a, .int r] ∧ LkP K H CL t a ∧ t.wf ks ms b ∧ t.dep ≤ d ∧ TbP K C A B H ∧ TbL B ∧ r < B.rows.length ∧ ∀ H', Same H H' → Q (tst b (Tr.ev B t r)) H'
theorem isN_oV (o : Option Nat) : isN (oV o) = o.isNone := by cases o <;> rfl
theorem oEq_oV {Γ : Gm} {H : Hp} {Q : VK} {a b : Option Nat} (q : Q (.bl (decide (a = b))) H) : oEq Γ (oV a) (oV b) H Q := by
  cases a with
  | none => cases b with
    | none => exact q
    | some j => rw [decide_eq_false (fun h => by cases h)] at q; exact q
  | some i => cases b with
    | none => rw [decide_eq_false (fun h => by cases h)] at q; exact q
    | some j =>
      show Q (.bl (decide ((i : Int) = j))) H
      have e : decide ((i : Int) = j) = decide (some i = some j) := decide_eq_decide.mpr ⟨fun h => by congr 1; omega, fun h => by cases h; rfl⟩
      rw [e]
      exact q
theorem wne {a b : String} (h : ¬ Str.ofString a = Str.ofString b := by decide +kernel) : ¬ Str.ofString a = Str.ofString b := h
abbrev s_number : Stmt := topS 28
abbrev n_number : List Str := ["_law_box_here"]
theorem sc_number : FnScope n_number ["_law_box_here"] (defScope s_number) := ⟨rfl, rfl, rfl, by decide +kernel, rfl, by decide +kernel, by decide +kernel⟩
theorem nm_number : nvB n_number (defScope s_number) 0 "_law_box_here" = true ∧ gvB (defScope s_number) "_law_of" = true := by decide +kernel
theorem cl_number {Γ : Gm} (dfn : Dfn Γ "_law_number" s_number ["_law_box_here"]) (T : Names Γ) (c_law_of : Cl Γ CX0 2 "_law_of" (spOf Γ.K) []) : Cl Γ CX0 (3) "_law_number" (spNumber Γ.K) [] := by
  refine dfn.cl sc_number (fun vs H Q E h => ?_) (fun f cdv A outer s H vs Q E hg h => ?_)
  · obtain ⟨b, n, rfl, _⟩ := h
    rfl
  obtain ⟨b, n, rfl, hb, q⟩ := h
  have nd := sc_number.nd
  obtain ⟨v0, g__law_of⟩ := nm_number
  refine ⟨_, (pss_one (ps_ret (pcl c_law_of hg (by omega) g__law_of pass0 (pa_cons (ps 0 v0) (pa_cons (pe_lst (pa_cons pe_int (pa_cons pe_int (pa_cons pe_int (pa_cons pe_int (pa_cons pe_int (pa_cons (pe_un (k_neg hg) pe_int) (pa_cons (pe_un (k_neg hg) pe_int) (pa_cons pe_int (pa_cons (pe_op (k_add hg) (pe_op (k_pow hg) pe_int pe_int) pe_int) (pa_cons (pe_op (k_pow hg) pe_int pe_int) (pa_cons (pe_un (k_neg hg) (pe_op (k_pow hg) pe_int pe_int)) pa_nil)))))))))))) pa_nil))))), ?_⟩
  refine st_start (σ := [some _]) rfl ?_
  walk_at "dn"
  refine ⟨⟨by decide, by decide, by decide⟩, ⟨by decide, by decide, by decide⟩, ⟨by decide, by decide, by decide⟩, szl (by simp only [List.length_cons, List.length_nil]; omega), fun p hp => ?_⟩
  have hne : p ≠ b := fun e => by
    obtain ⟨xs, e2⟩ := hb.cell
    rw [e, e2] at hp; cases hp
  have hb' : Box b (n + 1) (upd H p (.lst [.int 0, .int 1, .int 1, .int 2, .int 3, .int (-1), .int (-7), .int 10, .int (10 ^ (18 : Int).toNat + 9), .int (10 ^ (60 : Int).toNat), .int (-10 ^ (60 : Int).toNat)])) := by
    obtain ⟨i, j, k, h1, h2⟩ := hb
    exact ⟨i, j, k, Same.mk hp _ _ h1, h2⟩
  refine ⟨b, _, n, rfl, hb', .inl ⟨p, _, rfl, hne, SqL.of upd_same, by simp only [List.length_cons, List.length_nil]; omega, by simp only [List.length_cons, List.length_nil]; omega, fun v hv H5 f5 b5 => ?_⟩⟩
  have key : ∀ v ∈ [V.int 0, V.int 1, V.int 1, V.int 2, V.int 3, V.int (-1), V.int (-7), V.int 10, V.int (10 ^ (18 : Int).toNat + 9), V.int (10 ^ (60 : Int).toNat), V.int (-10 ^ (60 : Int).toNat)], ∃ i : Int, v = .int i ∧ i.natAbs ≤ 10 ^ 60 := by
    simp only [List.forall_mem_cons]
    refine ⟨⟨_, rfl, by decide⟩, ⟨_, rfl, by decide⟩, ⟨_, rfl, by decide⟩, ⟨_, rfl, by decide⟩, ⟨_, rfl, by decide⟩, ⟨_, rfl, by decide⟩, ⟨_, rfl, by decide⟩, ⟨_, rfl, by decide⟩, ⟨_, rfl, by decide⟩, ⟨_, rfl, by decide⟩, ⟨_, rfl, by decide⟩, fun _ h => nomatch h⟩
  obtain ⟨i, rfl, hi⟩ := key v hv
  exact q i H5 hi ((Fr.of (Same.mk hp)).trans f5) b5
def mput (m : Mp) (r o : Nat) : Mp := if (nxt m r).isSome = true then m.map (fun e => if e.1 = r then (e.1, o) else e) else m ++ [(r, o)]
theorem putK_mput (m : Mp) (r o : Nat) : putK (mpK m) (Sum.inl (r : Int)) (.int o) = mpK (mput m r o) := by
  unfold mput
  cases h : nxt m r with
  | none => exact putK_mp h
  | some z =>
    unfold putK
    rw [valV_any, valV_mp, h, if_pos (by rfl), if_pos (by rfl)]
    unfold mpK
    rw [List.map_map, List.map_map]
    refine List.map_congr_left fun e _ => ?_
    show (if (Sum.inl (e.1 : Int) : Key) = Sum.inl (r : Int) then ((Sum.inl (e.1 : Int) : Key), V.int o) else (Sum.inl (e.1 : Int), V.int e.2)) = (Sum.inl (((if e.1 = r then (e.1, o) else e).1 : Nat) : Int), V.int (((if e.1 = r then (e.1, o) else e).2 : Nat) : Int))
    by_cases h : e.1 = r
    · rw [if_pos (by rw [h]), if_pos h]
    · rw [if_neg (fun z => h (by injection z with z; omega)), if_neg h]
theorem nxt_app {a b : Mp} {r : Nat} : nxt (a ++ b) r = match nxt a r with
  | some o => some o
  | none => nxt b r := by
  induction a with
  | nil => rfl
  | cons e l ih =>
    rw [List.cons_append, nxt_cons, nxt_cons, ih]
    by_cases h : e.1 = r
    · rw [if_pos h, if_pos h]
    · rw [if_neg h, if_neg h]
theorem nxt_mput {m : Mp} {r o x : Nat} : nxt (mput m r o) x = if x = r then some o else nxt m x := by
  unfold mput
  cases h : nxt m r with
  | none =>
    rw [if_neg (by decide), nxt_app]
    by_cases e : x = r
    · rw [if_pos e, e, h]
      show nxt [(r, o)] r = _
      rw [nxt_cons, if_pos rfl]
    · rw [if_neg e]
      cases nxt m x with
      | some z => rfl
      | none =>
        show nxt [(r, o)] x = none
        rw [nxt_cons, if_neg (fun z => e z.symm)]
        rfl
  | some z =>
    rw [if_pos (by rfl)]
    by_cases e : x = r
    · rw [if_pos e, e]
      clear e
      induction m with
      | nil => cases h
      | cons p l ih =>
        rw [List.map_cons, nxt_cons]
        rw [nxt_cons] at h
        by_cases q : p.1 = r
        · rw [if_pos q, if_pos q]
        · rw [if_neg q] at h
          rw [if_neg q, if_neg q]
          exact ih h
    · rw [if_neg e]
      clear h
      induction m with
      | nil => rfl
      | cons p l ih =>
        rw [List.map_cons, nxt_cons, nxt_cons, ih]
        by_cases q : p.1 = r
        · rw [if_pos q, if_neg (show ¬ p.1 = x from fun z => e (z.symm.trans q)), if_neg (show ¬ p.1 = x from fun z => e (z.symm.trans q))]
        · rw [if_neg q]
theorem mput_len {m : Mp} {r o : Nat} : (mput m r o).length ≤ m.length + 1 := by
  unfold mput
  split
  · rw [List.length_map]; omega
  · rw [List.length_append, List.length_singleton]; omega
/-- links drawn along an order -/
structure LnI (ord : List Nat) (i : Nat) (last m : Mp) : Prop where
  nl : ∀ x r, nxt last x = some r → r ∈ ord.take i ∧ nxt m r = none
  dis : ∀ x y r, nxt last x = some r → nxt last y = some r → x = y
  km : (m.map (·.1)).Nodup
  kb : ((swp m).map (·.1)).Nodup
  lt : ∀ r o, (r, o) ∈ m → ∃ a b, a < b ∧ b < i ∧ ord[a]? = some r ∧ ord[b]? = some o
  ll : last.length ≤ i
theorem LnI.nil {ord : List Nat} : LnI ord 0 [] [] := ⟨(fun _ _ h => nomatch h), (fun _ _ _ h => nomatch h), .nil, .nil, (fun _ _ h => nomatch h), Nat.le_refl _⟩
section
variable {ord : List Nat} {i row : Nat} {last m : Mp}
theorem take_sub {i : Nat} {r : Nat} (h : r ∈ ord.take i) : r ∈ ord.take (i + 1) := by
  rw [List.take_add_one]
  exact List.mem_append_left _ h
theorem LnI.skip (h : LnI ord i last m) : LnI ord (i + 1) last m :=
  ⟨fun x r e => ⟨take_sub (h.nl x r e).1, (h.nl x r e).2⟩, h.dis, h.km, h.kb, fun r o e => by
    obtain ⟨a, b, h1, h2, h3, h4⟩ := h.lt r o e
    exact ⟨a, b, h1, Nat.lt_succ_of_lt h2, h3, h4⟩, Nat.le_succ_of_le h.ll⟩
theorem not_take (nd : ord.Nodup) (e : ord[i]? = some row) : row ∉ ord.take i := fun h => by
  obtain ⟨j, hj, e2⟩ := List.mem_iff_getElem.mp h
  rw [List.length_take] at hj
  have hi := (List.getElem?_eq_some_iff.mp e).1
  have h1 : ord[j]? = some row := by rw [← e2, List.getElem_take]; exact List.getElem?_eq_getElem (by omega)
  have := (List.getElem?_inj (by omega) nd).mp (h1.trans e.symm)
  omega
/-- the row is nowhere yet -/
theorem LnI.new (h : LnI ord i last m) (nd : ord.Nodup) (e : ord[i]? = some row) : (∀ x, nxt last x ≠ some row) ∧ nxt m row = none ∧ ∀ r, (r, row) ∉ m := by
  have nt := not_take nd e
  have ix : ∀ {a : Nat}, ord[a]? = some row → a = i := fun {a} h1 => (List.getElem?_inj (List.getElem?_eq_some_iff.mp h1).1 nd).mp (h1.trans e.symm)
  refine ⟨fun x z => nt (h.nl x row z).1, nxt_none.mpr fun o z => ?_, fun r z => ?_⟩
  · obtain ⟨a, b, h1, h2, h3, h4⟩ := h.lt row o z
    have := ix h3
    omega
  · obtain ⟨a, b, h1, h2, h3, h4⟩ := h.lt r row z
    have := ix h4
    omega
theorem LnI.put (h : LnI ord i last m) (nd : ord.Nodup) (e : ord[i]? = some row) (x : Nat) : LnI ord (i + 1) (mput last x row) m := by
  obtain ⟨n1, n2, n3⟩ := h.new nd e
  have hr : row ∈ ord.take (i + 1) := by rw [List.take_add_one, e]; exact List.mem_append_right _ (.head _)
  refine ⟨fun y r z => ?_, fun y y' r z z' => ?_, h.km, h.kb, h.skip.lt, Nat.le_trans mput_len (Nat.succ_le_succ h.ll)⟩
  · rw [nxt_mput] at z
    split at z
    · cases z; exact ⟨hr, n2⟩
    · exact h.skip.nl y r z
  · rw [nxt_mput] at z z'
    split at z
    · cases z
      split at z'
      · rename_i a b; rw [a, b]
      · exact absurd z' (n1 _)
    · split at z'
      · cases z'; exact absurd z (n1 _)
      · exact h.dis y y' r z z'
theorem LnI.add (h : LnI ord i last m) (nd : ord.Nodup) (e : ord[i]? = some row) {x r : Nat} (g : nxt last x = some r) : LnI ord (i + 1) (mput last x row) (m ++ [(r, row)]) := by
  obtain ⟨n1, n2, n3⟩ := h.new nd e
  obtain ⟨g1, g2⟩ := h.nl x r g
  have p := h.put nd e x
  have hne : r ≠ row := fun z => n1 x (by rw [← z]; exact g)
  refine ⟨fun y r' z => ⟨(p.nl y r' z).1, ?_⟩, p.dis, snoc_nd h.km g2, ?_, fun a b z => ?_, p.ll⟩
  · have := (p.nl y r' z).2
    rw [nxt_app, this]
    show nxt [(r, row)] r' = none
    rw [nxt_cons, if_neg (fun k => ?_)]
    · rfl
    · have k : r = r' := k
      subst k
      rw [nxt_mput] at z
      split at z
      · cases z; exact hne rfl
      · rename_i ny; exact ny (h.dis y x r z g)
  · rw [swp_app]
    exact snoc_nd h.kb (nxt_none.mpr fun o z => n3 o (mem_swp.mp z))
  · rcases List.mem_append.mp z with z | z
    · exact p.lt a b z
    · cases List.mem_singleton.mp z
      obtain ⟨j, hj, e2⟩ := List.mem_iff_getElem.mp g1
      rw [List.length_take] at hj
      refine ⟨j, i, by omega, Nat.lt_succ_self _, ?_, e⟩
      rw [← e2, List.getElem_take]
      exact List.getElem?_eq_getElem (by omega)
/-- links along an order -/
structure LnOk (ord : List Nat) (m : Mp) : Prop where
  km : (m.map (·.1)).Nodup
  kb : ((swp m).map (·.1)).Nodup
  lt : ∀ r o, (r, o) ∈ m → ∃ a b : Nat, a < b ∧ ord[a]? = some r ∧ ord[b]? = some o
theorem LnI.ok (h : LnI ord i last m) : LnOk ord m := ⟨h.km, h.kb, fun r o e => by
  obtain ⟨a, b, h1, _, h2, h3⟩ := h.lt r o e
  exact ⟨a, b, h1, h2, h3⟩⟩
end
def lksF {Γ : Gm} (ts : List Addr) (ls : List Lk) : PF (E1 Γ) := ⟨fun H => LnkP Γ.K H ts ls, fun H H' k h => ⟨h.len, fun i t e a b => sqt_loc k (h.at_ i t e a b)⟩⟩
theorem lksF_app {Γ : Gm} {ts : List Addr} {ls : List Lk} {t : Addr} {e : Lk} {H : Hp} (h : LnkP Γ.K H ts ls) (k : SqT Γ.K H t (lkI e)) : LnkP Γ.K H (ts ++ [t]) (ls ++ [e]) := by
  refine ⟨by rw [List.length_append, List.length_append, h.len]; rfl, fun i u x a b => ?_⟩
  rcases Nat.lt_trichotomy i ts.length with hi | hi | hi
  · rw [List.getElem?_append_left hi] at a
    rw [List.getElem?_append_left (by rw [← h.len]; exact hi)] at b
    exact h.at_ i u x a b
  · rw [hi, List.getElem?_append_right (Nat.le_refl _)] at a
    rw [hi, h.len, List.getElem?_append_right (Nat.le_refl _)] at b
    obtain rfl : t = u := by simpa using a
    obtain rfl : e = x := by simpa using b
    exact k
  · rw [List.getElem?_append_right (by omega), List.getElem?_eq_none (by simp; omega)] at a
    cases a
theorem SS.free0 {E : Hv} {H0 H : Hp} {S0 : List Addr} {F : List (PF E)} {R : List (RS E)} {a : Addr} (s : SS E H0 S0 H F R) (own : ∀ a ∈ S0, ∃ o, H a = some o) (h : H a = none) : H0 a = none := by
  cases e : H0 a with
  | none => rfl
  | some o =>
    by_cases m : a ∈ S0
    · obtain ⟨u, hu⟩ := own a m
      rw [h] at hu; cases hu
    · have := s.fr a o m e
      rw [h] at this; cases this
theorem box_own {b : Addr} {n : Nat} {H : Hp} (h : Box b n H) : ∀ a ∈ [b], ∃ o, H a = some o := fun a ha => by
  rw [List.mem_singleton.mp ha]
  obtain ⟨xs, e⟩ := h.cell
  exact ⟨_, e⟩
def spLinked (K : PySem.W.Frag) : Sp := fun vs H Q _ => ∃ (b l : Addr) (kind : Str) (ord : List Nat) (n : Nat), vs = [.ref b, .str kind, .ref l] ∧ Box b (n + 1 + ord.length) H ∧ SqL K H l (ord.map fun r : Nat => V.int r) ∧ l ≠ b ∧ ord.Nodup ∧ ord.length < 10000 ∧
  ∀ p ts ls H', H p = none → Fr [b] H H' → Box b n H' → H' p = some (.lst (ts.map V.ref)) → LnkP K H' ts ls → (∀ e ∈ ls, e.1 = kind) → LnOk ord (ls.map (·.2)) → ls.length ≤ ord.length → Q (.ref p) H'
abbrev s_linked : Stmt := topS 29
abbrev n_linked : List Str := ["_law_box_here", "_law_kind", "_law_order_so", "_law_wide", "_law_last", "_law_found", "_law_row", "_law_line"]
theorem sc_linked : FnScope n_linked ["_law_box_here", "_law_kind", "_law_order_so"] (defScope s_linked) := ⟨rfl, rfl, rfl, by decide +kernel, rfl, by decide +kernel, by decide +kernel⟩
theorem nm_linked : nvB n_linked (defScope s_linked) 0 "_law_box_here" = true ∧ nvB n_linked (defScope s_linked) 1 "_law_kind" = true ∧ nvB n_linked (defScope s_linked) 2 "_law_order_so" = true ∧ nvB n_linked (defScope s_linked) 3 "_law_wide" = true ∧ nvB n_linked (defScope s_linked) 4 "_law_last" = true ∧ nvB n_linked (defScope s_linked) 5 "_law_found" = true ∧ nvB n_linked (defScope s_linked) 6 "_law_row" = true ∧ nvB n_linked (defScope s_linked) 7 "_law_line" = true ∧ lvB n_linked (defScope s_linked) 6 "_law_row" = true ∧ lvB n_linked (defScope s_linked) 7 "_law_line" = true ∧ gvB (defScope s_linked) "_law_take" = true := by decide +kernel
theorem cl_linked {Γ : Gm} (dfn : Dfn Γ "_law_linked" s_linked ["_law_box_here", "_law_kind", "_law_order_so"]) (T : Names Γ) (c_law_take : Cl Γ CX0 1 "_law_take" spTake []) : Cl Γ CX0 (2) "_law_linked" (spLinked Γ.K) [] := by
  refine dfn.cl sc_linked (fun vs H Q E h => ?_) (fun f cdv A outer s H vs Q E hg h => ?_)
  · obtain ⟨b, l, kind, ord, n, rfl, _⟩ := h
    rfl
  obtain ⟨b, l, kind, ord, n, rfl, hb, hl, hlb, nd0, lo, q⟩ := h
  have nd := sc_linked.nd
  obtain ⟨v0, v1, v2, v3, v4, v5, v6, v7, l6, l7, g__law_take⟩ := nm_linked
  refine ⟨_, (C8.pss_cut (ps_p3 (i := 3) (j := 4) (l := 5) rfl nd rfl rfl rfl (by decide) (by decide) (by decide) rfl rfl rfl (pa_cons (pe_op (k_add hg) pe_int (pcl c_law_take hg (by omega) g__law_take pass0 (pa_cons (ps 0 v0) (pa_cons pe_int pa_nil)))) (pa_cons pe_dnewK (pa_cons (pe_lst pa_nil) pa_nil))) (by rfl))
    (pss_cons (ps_for PassesOwn.never rfl (pi_l hg (ps 2 v2)) (pgn (i := 6) nd l6)
    (pss_cons (pst (i := 7) nd l7 (pcl c_law_take hg (by omega) g__law_take pass0 (pa_cons (ps 0 v0) (pa_cons (pe_op (k_add hg) (pe_op (k_mul hg) pe_int (ps 3 v3)) pe_int) pa_nil))))
    (pss_one (ps_ifB (pt_cm (k_lt hg) (ps 7 v7) (pe_op (k_mul hg) pe_int (ps 3 v3)) (nomark _))
    (pss_cons (ps_ifB (pt_cm (WO.ok hg) (pe_op (k_div hg) (ps 7 v7) pe_int) (ps 4 v4) (by with_unfolding_all rfl))
    (pss_one (ps_expr (pe_bmK hg PySem.F.plainAttrs_list PySem.F.slot_list_append PySem.F.type_list_append mt_append (ps 5 v5) (pa_cons (pe_tup (pa_cons (ps 1 v1) (pa_cons (pe_ix (WX.ok hg) (ps 4 v4) (pe_op (k_div hg) (ps 7 v7) pe_int) (fun _ _ => rfl)) (pa_cons (ps 6 v6) pa_nil)))) pa_nil))))
    pss_nil)
    (pss_one (ps_asg (ps 6 v6) (pg_sub (ps 4 v4) (pe_op (k_div hg) (ps 7 v7) pe_int) (WP.ok hg)))))
    pss_nil))))
    (pss_one (ps_ret (ps 5 v5))))), ?_⟩
  refine st_start (σ := [some _, some _, some _, none, none, none, none, none]) rfl ?_
  walk_at "dn"
  refine ⟨fun σ' H1 => ∃ (wd : Nat) (D pf : Addr), σ' = [some (.ref b), some (.str kind), some (.ref l), some (.int wd), some (.ref D), some (.ref pf), none, none] ∧ (1 ≤ wd ∧ wd ≤ 2) ∧ H pf = none ∧ SS (E1 Γ) H [b] H1 [] [lstR pf [], cellR D (.dK []), boxR b (n + ord.length)], ?_, ?_⟩
  · refine ⟨b, 2, n + ord.length, rfl, by omega, by omega, hb.less (by omega), fun r H1 r0 r1 f1 b1 => ?_⟩
    walk_at "di"
    intro D hD
    refine ⟨szl (by simp only [List.length_nil]; omega), fun pf hpf => ?_⟩
    have s1 := ((SS.box1 (E := E1 Γ) hb).draw (n := n + ord.length) .here f1 b1).newC (o := .dK []) hD (fun z => z)
    refine ⟨(1 + r).toNat, D, pf, by rw [show (1 + r) = (((1 + r).toNat : Nat) : Int) from by omega]; rfl, ⟨by omega, by omega⟩, SS.free0 s1 (box_own (s1.box (.tail _ (.head _)))) hpf, s1.newC (o := .lst []) hpf (fun z => z)⟩
  rintro σ' H1 ⟨wd, D, pf, rfl, ⟨w1, w2⟩, hpf, s1⟩
  walk_at "dn"
  have nlb : l ∉ [b] := fun z => hlb (List.mem_singleton.mp z)
  refine ⟨l, rfl, ⟨_, s1.fr.sql hl nlb⟩, ?_⟩
  refine lp_list (xs := ord.map fun r : Nat => V.int r) (fun i σ H' => ∃ (a6 a7 : Option V) (last : Mp) (ts : List Addr) (ls : List Lk), σ = [some (.ref b), some (.str kind), some (.ref l), some (.int wd), some (.ref D), some (.ref pf), a6, a7] ∧ SS (E1 Γ) H [b] H' [lksF ts ls] [lstR pf (ts.map V.ref), cellR D (.dK (mpK last)), boxR b (n + (ord.length - i))] ∧ LnI ord i last (ls.map (·.2)) ∧ (∀ e ∈ ls, e.1 = kind) ∧ ls.length ≤ i)
    ⟨none, none, [], [], [], rfl, s1.add (lksF [] []) ⟨rfl, fun i t e h => by simp at h⟩, .nil, (fun _ h => nomatch h), Nat.le_refl _⟩ (fun i σ H' _ ⟨_, _, _, _, _, _, s, _⟩ => s.fr.sql hl nlb) ?_ ?_
  · rintro i y σ H2 hy ⟨a6, a7, last, ts, ls, rfl, s2, ln, hk, hl2⟩
    rw [List.getElem?_map] at hy
    obtain ⟨row, hrow, rfl⟩ := Option.map_eq_some_iff.mp hy
    have hi := (List.getElem?_eq_some_iff.mp hrow).1
    walk_at "dn"
    have hbx := s2.box (.tail _ (.tail _ (.head _)))
    refine ⟨by first | exact .inl ⟨by omega, by omega⟩ | exact .inr ⟨by omega, by omega⟩, ?_⟩
    walk_at "di"
    refine ⟨b, _, n + (ord.length - (i + 1)), rfl, by omega, by omega, hbx.less (by omega), fun r H3 r0 r1 f3 b3 => ?_⟩
    have s3 := s2.draw (n := n + (ord.length - (i + 1))) (.next (.next .here)) f3 b3
    obtain ⟨rn, rfl⟩ : ∃ rn : Nat, r = rn := ⟨r.toNat, by omega⟩
    walk_at "di"
    refine ⟨by first | exact .inl ⟨by omega, by omega⟩ | exact .inr ⟨by omega, by omega⟩, ?_⟩
    refine br_d (fun _ => ?_) (fun _ => ⟨_, _, last, ts, ls, rfl, s3, ln.skip, hk, by omega⟩)
    have o3 : (0 : Int) < 3 ∧ (3 : Int) < 1073741824 := ⟨by omega, by omega⟩
    refine ⟨o3, ?_⟩
    rw [show ((rn : Int) / 3) = ((rn / 3 : Nat) : Int) from by omega]
    have cD := s3.cell (p := D) (b := false) (.tail _ (.head _))
    have lm : (mpK last).length < sizeLine := lt_size (by unfold mpK; rw [List.length_map]; have := ln.ll; omega)
    refine wo_inD (dg_mp cD) ?_
    cases hx : nxt last (rn / 3) with
    | none =>
      walk_at "di"
      refine br_y (by rfl) ⟨o3, ?_⟩
      refine wp_d (DPut.k (k := Sum.inl ((rn / 3 : Nat) : Int)) cD lm) ?_
      rw [putK_mput]
      exact ⟨_, _, _, ts, ls, rfl, s3.put (u := .dK (mpK (mput last (rn / 3) row))) (.next .here) (fun z => z), ln.put nd0 hrow _, hk, by omega⟩
    | some r' =>
      walk_at "di"
      refine br_x (by rfl) ⟨ty_l (SqL.of (s3.cell (.head _))), o3, wx_d (v := .int r') (by have := dg_mp (r := rn / 3) cD; rw [hx] at this; exact this) ?_⟩
      refine ⟨szl (by simp only [List.length_cons, List.length_nil]; omega), fun T hT => ?_⟩
      have s4 := s3.newT (xs := [.str kind, .int r', .int row]) hT
      refine ap_ss s4 .here (lt_size (by rw [List.length_map, (s4.f (lksF ts ls) (.tail _ (.head _))).len]; omega)) fun H5 s5 => ⟨o3, ?_⟩
      have cD5 := s5.cell (p := D) (b := false) (.tail _ (.head _))
      refine wp_d (DPut.k (k := Sum.inl ((rn / 3 : Nat) : Int)) cD5 lm) ?_
      rw [putK_mput]
      have s6 := s5.put (u := .dK (mpK (mput last (rn / 3) row))) (.next .here) (fun z => z)
      refine ⟨_, _, mput last (rn / 3) row, ts ++ [T], ls ++ [(kind, r', row)], rfl, ?_, ?_, fun e he => ?_, by rw [List.length_append, List.length_singleton]; omega⟩
      · rw [List.map_append]
        exact (s6.add (lksF (ts ++ [T]) (ls ++ [(kind, r', row)])) (lksF_app (s6.f (lksF ts ls) (.tail _ (.head _))) (s6.tup (.head _)))).sub fun z hz => by
          rw [List.mem_singleton.mp hz]; exact .head _
      · rw [List.map_append]
        exact ln.add nd0 hrow hx
      · rcases List.mem_append.mp he with h | h
        · exact hk e h
        · rw [List.mem_singleton.mp h]
  · rintro σ H2 ⟨a6, a7, last, ts, ls, rfl, s2, ln, hk, hl2⟩
    rw [List.length_map] at ln hl2 s2
    walk_at "dn"
    exact q pf ts ls H2 hpf s2.fr ((s2.box (.tail _ (.tail _ (.head _)))).less (by omega)) (s2.cell (.head _)) (s2.f _ (.head _)) hk ln.ok hl2
theorem zip_fst {ts : List Addr} {ls : List Lk} (h : ts.length = ls.length) : (ts.zip ls).map (·.1) = ts := List.map_fst_zip (by omega)
theorem zip_snd {ts : List Addr} {ls : List Lk} (h : ts.length = ls.length) : (ts.zip ls).map (·.2) = ls := List.map_snd_zip (by omega)
/-- sorted of links -/
theorem wc_sortL {Γ : Gm} {H : Hp} {Q : VK} {a : Addr} {ts : List Addr} {ls : List Lk} (h : H a = some (.lst (ts.map V.ref))) (k : LnkP Γ.K H ts ls) (q : ∀ p ts', H p = none → LnkP Γ.K H ts' (ls.mergeSort lkLe) → Q (.ref p) (upd H p (.lst (ts'.map V.ref)))) : WC Γ (.builtin "sorted") [.ref a] H Q := by
  have e1 := zip_fst k.len
  have e2 := zip_snd k.len
  have hz : ∀ z ∈ ts.zip ls, SqT Γ.K H z.1 (lkI z.2) := fun z hz => by
    obtain ⟨i, hi⟩ := List.mem_iff_getElem?.mp hz
    rw [List.getElem?_zip_eq_some] at hi
    exact k.at_ i z.1 z.2 hi.1 hi.2
  have e0 : H a = some (.lst (((ts.zip ls).map fun z : Addr × Lk => (V.ref z.1, lkD z.2)).map (·.1))) := by
    have e5 : ((ts.zip ls).map fun z : Addr × Lk => (V.ref z.1, lkD z.2)).map (·.1) = ts.map V.ref := by
      rw [List.map_map]
      conv => rhs; rw [← e1]
      rw [List.map_map]
      rfl
    rw [e5]; exact h
  refine wc_sortD (es := (ts.zip ls).map fun z : Addr × Lk => (V.ref z.1, lkD z.2)) (SqL.of e0) (fun e he => ?_) (fun d hd d' hd' => ?_) (.inl fun d hd => ?_) (fun e he => ?_) fun p2 hp2 => ?_
  · obtain ⟨z, hzm, rfl⟩ := List.mem_map.mp he
    exact .tup (hz z hzm) (.cons (.str _) (.cons (.int _) (.cons (.int _) .nil)))
  · obtain ⟨e, he, rfl⟩ := List.mem_map.mp hd
    obtain ⟨e', he', rfl⟩ := List.mem_map.mp hd'
    obtain ⟨z, _, rfl⟩ := List.mem_map.mp he
    obtain ⟨z', _, rfl⟩ := List.mem_map.mp he'
    simp [lkD, PySem.W.alike, PySem.W.alikeAll]
  · obtain ⟨e, he, rfl⟩ := List.mem_map.mp hd
    obtain ⟨z, _, rfl⟩ := List.mem_map.mp he
    exact ⟨_, _, rfl⟩
  · obtain ⟨z, _, rfl⟩ := List.mem_map.mp he
    simp [lkD, PyData.depth, PyData.depthAll]
  · have hms : (((ts.zip ls).map fun z => (V.ref z.1, lkD z.2)).mergeSort (PySem.W.dataLe false (·.2))).map (·.1) = (((ts.zip ls).mergeSort fun z z' => lkLe z.2 z'.2).map (·.1)).map V.ref := by
      rw [← List.map_mergeSort (r := fun (z z' : Addr × Lk) => lkLe z.2 z'.2) (s := PySem.W.dataLe false (·.2)) (f := fun z : Addr × Lk => (V.ref z.1, lkD z.2)) (fun a _ b _ => rfl), List.map_map, List.map_map]
      rfl
    rw [hms]
    have e3 : ((ts.zip ls).mergeSort fun z z' => lkLe z.2 z'.2).map (·.2) = ls.mergeSort lkLe := by
      rw [List.map_mergeSort (r := fun (z z' : Addr × Lk) => lkLe z.2 z'.2) (s := lkLe) (f := (·.2)) (fun a _ b _ => rfl), e2]
    refine q p2 _ hp2 ⟨by rw [← e3, List.length_map, List.length_map], fun i t e h1 h2 => ?_⟩
    rw [← e3, List.getElem?_map] at h2
    rw [List.getElem?_map] at h1
    obtain ⟨z, hz1, rfl⟩ := Option.map_eq_some_iff.mp h1
    obtain ⟨z', hz2, rfl⟩ := Option.map_eq_some_iff.mp h2
    rw [hz1] at hz2
    cases hz2
    exact hz z (List.mem_mergeSort.mp (List.mem_of_getElem? hz1))
theorem LnOk.lki {ord : List Nat} {m : Mp} {n : Nat} (h : LnOk ord m) (p : ord.Perm (List.range n)) : LkI n m (swp m) := by
  have nd : ord.Nodup := p.nodup_iff.mpr List.nodup_range
  have mem : ∀ {x : Nat}, x ∈ ord → x < n := fun hx => List.mem_range.mp (p.mem_iff.mp hx)
  refine ⟨h.km, h.kb, fun a b => mem_swp.symm, fun r o e => ?_, fun x => ord.idxOf x, fun r o e => ?_⟩
  · obtain ⟨a, b, _, h1, h2⟩ := h.lt r o e
    exact ⟨mem (List.mem_of_getElem? h1), mem (List.mem_of_getElem? h2)⟩
  · obtain ⟨a, b, h0, h1, h2⟩ := h.lt r o e
    have ix : ∀ {x c : Nat}, ord[c]? = some x → ord.idxOf x = c := fun {x c} hc => by
      have hm := List.mem_of_getElem? hc
      have h3 : ord[ord.idxOf x]? = some x := by
        rw [List.getElem?_eq_getElem (List.idxOf_lt_length_iff.mpr hm)]
        exact congrArg some (List.getElem_idxOf _)
      exact (List.getElem?_inj (List.idxOf_lt_length_iff.mpr hm) nd).mp (h3.trans hc.symm)
    show ord.idxOf r < ord.idxOf o
    rw [ix h1, ix h2]
    exact h0
theorem lki_perm {n : Nat} {m m' : Mp} (h : LkI n m (swp m)) (p : m.Perm m') : LkI n m' (swp m') :=
  ⟨(p.map (·.1)).nodup_iff.mp h.km, ((p.map (fun e : Nat × Nat => (e.2, e.1))).map (·.1)).nodup_iff.mp h.kb, fun a b => mem_swp.symm, fun r o e => h.lt r o (p.mem_iff.mpr e), by
    obtain ⟨rk, hrk⟩ := h.ac
    exact ⟨rk, fun r o e => hrk r o (p.mem_iff.mpr e)⟩⟩
theorem LksOk.perm {n : Nat} {ks : List Str} {ls ls' : List Lk} (h : LksOk n ks ls) (p : ls.Perm ls') : LksOk n ks ls' :=
  ⟨fun e he => h.k e (p.mem_iff.mpr he), fun k hk => lki_perm (h.i k hk) ((p.filter _).map _)⟩
/-- links of the first kinds -/
structure LvI (ord : List Nat) (n : Nat) (td : Bool) (ys : List Str) (i : Nat) (ls : List Lk) : Prop where
  k : ∀ e ∈ ls, e.1 ∈ ys.take i
  o : ∀ k ∈ ys, ∃ ord' : List Nat, ord'.Perm (List.range n) ∧ (td = true → ord' = ord) ∧ LnOk ord' (lkm k ls)
theorem lkm_no {k : Str} {ls : List Lk} (h : ∀ e ∈ ls, e.1 ≠ k) : lkm k ls = [] := by
  unfold lkm
  rw [List.filter_eq_nil_iff.mpr fun e he => by simpa using h e he]
  rfl
theorem lkm_all {k : Str} {ls : List Lk} (h : ∀ e ∈ ls, e.1 = k) : lkm k ls = ls.map (·.2) := by
  unfold lkm
  rw [List.filter_eq_self.mpr fun e he => by simpa using h e he]
theorem LvI.step {ord ord' : List Nat} {n i : Nat} {td : Bool} {ys : List Str} {ls ls2 : List Lk} {kind : Str} (h : LvI ord n td ys i ls) (nd : ys.Nodup) (hi : ys[i]? = some kind) (p : ord'.Perm (List.range n)) (t : td = true → ord' = ord) (hk : ∀ e ∈ ls2, e.1 = kind) (ok : LnOk ord' (ls2.map (·.2))) : LvI ord n td ys (i + 1) (ls ++ ls2) := by
  have htk : ys.take (i + 1) = ys.take i ++ [kind] := by rw [List.take_add_one, hi]; rfl
  have nin : kind ∉ ys.take i := fun hm => by
    obtain ⟨j, hj, e2⟩ := List.mem_iff_getElem.mp hm
    rw [List.length_take] at hj
    have hi' := (List.getElem?_eq_some_iff.mp hi).1
    have h1 : ys[j]? = some kind := by rw [← e2, List.getElem_take]; exact List.getElem?_eq_getElem (by omega)
    have := (List.getElem?_inj (by omega) nd).mp (h1.trans hi.symm)
    omega
  refine ⟨fun e he => ?_, fun k hkm => ?_⟩
  · rw [htk]
    rcases List.mem_append.mp he with he | he
    · exact List.mem_append_left _ (h.k e he)
    · rw [hk e he]; exact List.mem_append_right _ (.head _)
  · by_cases e : k = kind
    · subst e
      refine ⟨ord', p, t, ?_⟩
      rw [lkm_app, lkm_no (ls := ls) (fun e he z => nin (by rw [← z]; exact h.k e he)), lkm_all hk, List.nil_append]
      exact ok
    · obtain ⟨o, h1, h2, h3⟩ := h.o k hkm
      refine ⟨o, h1, h2, ?_⟩
      rw [lkm_app, lkm_no (ls := ls2) (fun x hx z => e (by rw [← z]; exact hk x hx)), List.append_nil]
      exact h3
theorem LvI.ok {ord : List Nat} {n : Nat} {td : Bool} {ys ks : List Str} {ls : List Lk} (h : LvI ord n td ys ys.length ls) (m : ∀ z, z ∈ ys ↔ z ∈ ks) : LksOk n ks ls := by
  refine ⟨fun e he => ?_, fun k hk => ?_⟩
  · have := h.k e he
    rw [List.take_length] at this
    exact (m _).mp this
  · obtain ⟨o, h1, _, h3⟩ := h.o k ((m k).mpr hk)
    exact h3.lki h1
theorem LvI.timed {ord : List Nat} {n : Nat} {ys : List Str} {ls : List Lk} (h : LvI ord n true ys ys.length ls) (nd : ord.Nodup) : ∃ rk : Nat → Nat, ∀ e ∈ ls, rk e.2.1 < rk e.2.2 := by
  refine ⟨fun x => ord.idxOf x, fun e he => ?_⟩
  have hk := h.k e he
  rw [List.take_length] at hk
  obtain ⟨o, _, h2, h3⟩ := h.o e.1 hk
  have := h2 rfl
  subst this
  have hm : (e.2.1, e.2.2) ∈ lkm e.1 ls := List.mem_map.mpr ⟨e, List.mem_filter.mpr ⟨he, by simp⟩, rfl⟩
  obtain ⟨a, b, h0, h1, h2⟩ := h3.lt _ _ hm
  have ix : ∀ {x c : Nat}, o[c]? = some x → o.idxOf x = c := fun {x c} hc => by
    have hm := List.mem_of_getElem? hc
    have h3 : o[o.idxOf x]? = some x := by
      rw [List.getElem?_eq_getElem (List.idxOf_lt_length_iff.mpr hm)]
      exact congrArg some (List.getElem_idxOf _)
    exact (List.getElem?_inj (List.idxOf_lt_length_iff.mpr hm) nd).mp (h3.trans hc.symm)
  show o.idxOf e.2.1 < o.idxOf e.2.2
  rw [ix h1, ix h2]
  exact h0
theorem rgV0 (n : Nat) : rgV 0 (n : Int) = (List.range n).map fun r : Nat => V.int r := by
  unfold rgV
  rw [show ((n : Int) - 0).toNat = n from by omega]
  exact List.map_congr_left fun i _ => by rw [Int.zero_add]
theorem pick_nat {l : List Nat} {xs r : List V} (h : (xs ++ r).Perm (l.map fun x : Nat => V.int x)) (e : xs.length = l.length) : ∃ l' : List Nat, xs = l'.map (fun x : Nat => V.int x) ∧ l'.Perm l := by
  have h0 := h.length_eq
  rw [List.length_append, List.length_map] at h0
  have hr : r = [] := List.length_eq_zero_iff.mp (by omega)
  rw [hr, List.append_nil] at h
  let of : V → Nat := fun v => match v with
    | .int i => i.toNat
    | _ => 0
  have h2 := h.map of
  rw [List.map_map, show (of ∘ fun x : Nat => V.int x) = id from funext fun x => Int.toNat_natCast x, List.map_id] at h2
  refine ⟨xs.map of, ?_, h2⟩
  rw [List.map_map]
  refine (List.map_id xs).symm.trans (List.map_congr_left fun v hv => ?_)
  obtain ⟨z, _, rfl⟩ := List.mem_map.mp (h.mem_iff.mp hv)
  show V.int z = V.int (((z : Int).toNat : Nat) : Int)
  rw [Int.toNat_natCast]
def rwsF {Γ : Gm} (ts : List Addr) (rs : List Rw) : PF (E1 Γ) := ⟨fun H => RwP Γ.K H ts rs, fun H H' k h => ⟨h.len, fun i t e a b => by
  obtain ⟨m, h1, h2⟩ := h.at_ i t e a b
  exact ⟨m, sqt_loc k h1, sqt_loc k h2⟩⟩⟩
theorem rws_one {K : PySem.W.Frag} {H : Hp} {ts : List Addr} {rs : List Rw} {t m : Addr} {r : Rw} (h : RwP K H ts rs) (k : SqT K H t [.ref m, .int r.2]) (k2 : SqT K H m (r.1.map V.str)) : RwP K H (ts ++ [t]) (rs ++ [r]) := by
  refine ⟨by rw [List.length_append, List.length_append, h.len]; rfl, fun i u x a b => ?_⟩
  rcases Nat.lt_trichotomy i ts.length with hi | hi | hi
  · rw [List.getElem?_append_left hi] at a
    rw [List.getElem?_append_left (by rw [← h.len]; exact hi)] at b
    exact h.at_ i u x a b
  · rw [hi, List.getElem?_append_right (Nat.le_refl _)] at a
    rw [hi, h.len, List.getElem?_append_right (Nat.le_refl _)] at b
    obtain rfl : t = u := by simpa using a
    obtain rfl : r = x := by simpa using b
    exact ⟨m, k, k2⟩
  · rw [List.getElem?_append_right (by omega), List.getElem?_eq_none (by simp; omega)] at a
    cases a
theorem lks_app {K : PySem.W.Frag} {H : Hp} {ts ts2 : List Addr} {ls ls2 : List Lk} (h : LnkP K H ts ls) (k : LnkP K H ts2 ls2) : LnkP K H (ts ++ ts2) (ls ++ ls2) := by
  refine ⟨by rw [List.length_append, List.length_append, h.len, k.len], fun i u x a b => ?_⟩
  by_cases hi : i < ts.length
  · rw [List.getElem?_append_left hi] at a
    rw [List.getElem?_append_left (by rw [← h.len]; exact hi)] at b
    exact h.at_ i u x a b
  · rw [List.getElem?_append_right (by omega)] at a
    rw [List.getElem?_append_right (by rw [← h.len]; omega), ← h.len] at b
    exact k.at_ _ u x a b
theorem perm_v {α : Type} (a b c d e : α) : [a, b, c, d, e].Perm [c, a, b, d, e] := (by decide : ([0, 1, 2, 3, 4] : List Nat).Perm [2, 0, 1, 3, 4]).map fun i => [a, b, c, d, e].getD i a
def spLView (K : PySem.W.Frag) : Sp := fun vs H Q _ => ∃ (b kl ml : Addr) (ks ms : List Str) (most n : Nat) (td : Bool), vs = [.ref b, .ref kl, .ref ml, .int most, .bl td] ∧ Box b (n + 500) H ∧ SqL K H kl (ks.map V.str) ∧ SqL K H ml (ms.map V.str) ∧ kl ≠ b ∧ ml ≠ b ∧ ks.Nodup ∧ ks.length ≤ 3 ∧ (∀ z ∈ ks, Nm z) ∧ ms.Nodup ∧ ms.length ≤ 10 ∧ (∀ z ∈ ms, Nm z) ∧ most ≤ 12 ∧
  ∀ (p pk pf pl : Addr) (ks' : List Str) (fts : List Addr) (rws : List Rw) (lts : List Addr) (ls : List Lk) H', Fr [b] H H' → Box b n H' → SqT K H' p [.ref pk, .ref pf, .ref pl] → SqT K H' pk (ks'.map V.str) → Asc ks' → (∀ z, z ∈ ks' ↔ z ∈ ks) → SqT K H' pf (fts.map V.ref) → RwP K H' fts rws → rws.length ≤ most →
    (∀ u ∈ rws, Asc u.1 ∧ ∀ z ∈ u.1, z ∈ ms) → SqT K H' pl (lts.map V.ref) → LnkP K H' lts ls → LksOk rws.length ks ls → ls.length ≤ 40 → (∃ l0 : List Lk, ls = l0.mergeSort lkLe) → (td = true → ∃ rk : Nat → Nat, ∀ e ∈ ls, rk e.2.1 < rk e.2.2) → Q (.ref p) H'
abbrev s_lview : Stmt := topS 30
abbrev n_lview : List Str := ["_law_box_here", "_law_kinds_so", "_law_marks_so", "_law_most", "_law_timed", "_law_many", "_law_order", "_law_links_so", "_law_facts", "_law_kind", "_law_turned", "_law_lane", "_law_row", "_law_mine", "_law_name"]
theorem sc_lview : FnScope n_lview ["_law_box_here", "_law_kinds_so", "_law_marks_so", "_law_most", "_law_timed"] (defScope s_lview) := ⟨rfl, rfl, rfl, by decide +kernel, rfl, by decide +kernel, by decide +kernel⟩
theorem nm_lview : nvB n_lview (defScope s_lview) 0 "_law_box_here" = true ∧ nvB n_lview (defScope s_lview) 1 "_law_kinds_so" = true ∧ nvB n_lview (defScope s_lview) 2 "_law_marks_so" = true ∧ nvB n_lview (defScope s_lview) 3 "_law_most" = true ∧ nvB n_lview (defScope s_lview) 4 "_law_timed" = true ∧ nvB n_lview (defScope s_lview) 5 "_law_many" = true ∧ nvB n_lview (defScope s_lview) 6 "_law_order" = true ∧ nvB n_lview (defScope s_lview) 7 "_law_links_so" = true ∧ nvB n_lview (defScope s_lview) 8 "_law_facts" = true ∧ nvB n_lview (defScope s_lview) 9 "_law_kind" = true ∧ nvB n_lview (defScope s_lview) 10 "_law_turned" = true ∧ nvB n_lview (defScope s_lview) 11 "_law_lane" = true ∧ nvB n_lview (defScope s_lview) 13 "_law_mine" = true ∧ lvB n_lview (defScope s_lview) 5 "_law_many" = true ∧ lvB n_lview (defScope s_lview) 7 "_law_links_so" = true ∧ lvB n_lview (defScope s_lview) 9 "_law_kind" = true ∧ lvB n_lview (defScope s_lview) 10 "_law_turned" = true ∧ lvB n_lview (defScope s_lview) 11 "_law_lane" = true ∧ lvB n_lview (defScope s_lview) 12 "_law_row" = true ∧ gvB (defScope s_lview) "_law_linked" = true ∧ gvB (defScope s_lview) "_law_number" = true ∧ gvB (defScope s_lview) "_law_pick" = true ∧ gvB (defScope s_lview) "_law_take" = true ∧ gvB (defScope s_lview) "list" = true ∧ gvB (defScope s_lview) "range" = true ∧ gvB (defScope s_lview) "sorted" = true ∧ gvB (defScope s_lview) "tuple" = true := by decide +kernel
theorem cl_lview {Γ : Gm} (dfn : Dfn Γ "_law_view" s_lview ["_law_box_here", "_law_kinds_so", "_law_marks_so", "_law_most", "_law_timed"]) (T : Names Γ) (c_law_take : Cl Γ CX0 1 "_law_take" spTake []) (c_law_pick : Cl Γ CX0 2 "_law_pick" (spPick Γ.K) []) (c_law_linked : Cl Γ CX0 2 "_law_linked" (spLinked Γ.K) []) (c_law_number : Cl Γ CX0 3 "_law_number" (spNumber Γ.K) []) : Cl Γ CX0 (5) "_law_view" (spLView Γ.K) [] := by
  refine dfn.cl sc_lview (fun vs H Q E h => ?_) (fun f cdv A outer s H vs Q E hg h => ?_)
  · obtain ⟨b, kl, ml, ks, ms, most, n, td, rfl, _⟩ := h
    rfl
  obtain ⟨b, kl, ml, ks, ms, most, n, td, rfl, hb, hkl, hml, nkb, nmb, ndk, lks, nmk, ndm, lms, nmm, lmo, q⟩ := h
  have nd := sc_lview.nd
  obtain ⟨v0, v1, v2, v3, v4, v5, v6, v7, v8, v9, v10, v11, v13, l5, l7, l9, l10, l11, l12, g__law_linked, g__law_number, g__law_pick, g__law_take, g_list, g_range, g_sorted, g_tuple⟩ := nm_lview
  refine ⟨_, (C8.pss_cut (pst (i := 5) nd l5 (pcl c_law_take hg (by omega) g__law_take pass0 (pa_cons (ps 0 v0) (pa_cons (pe_op (k_add hg) (ps 3 v3) pe_int) pa_nil))))
    (C8.pss_cut (ps_p3 (i := 6) (j := 7) (l := 8) rfl nd rfl rfl rfl (by decide) (by decide) (by decide) rfl rfl rfl (pa_cons (pcl c_law_pick hg (by omega) g__law_pick pass0 (pa_cons (ps 0 v0) (pa_cons (pe_listRg hg.calm (gv_of g_list).1 T.n_list (prg_1 (gv_of g_range).1 T.n_range (ps 5 v5))) (pa_cons (ps 5 v5) pa_nil)))) (pa_cons (pe_lst pa_nil) (pa_cons (pe_lst pa_nil) pa_nil))) (by rfl))
    (C8.pss_cut (ps_for PassesOwn.never rfl (pi_l hg (pcb (WC.ok hg) g_sorted T.n_sorted bt_sorted (pa_cons (ps 1 v1) pa_nil))) (pgn (i := 9) nd l9)
    (pss_cons (pst (i := 10) nd l10 (pcl c_law_take hg (by omega) g__law_take pass0 (pa_cons (ps 0 v0) (pa_cons pe_int pa_nil))))
    (C8.pss_cut (pst (i := 11) nd l11 (pe_ifB (PW.pt (pw_orB (pt_tr hg (ps 4 v4)) (pw_or1 (pt_cm (k_lt hg) (ps 10 v10) pe_int (nomark _))))) (ps 6 v6) (pe_ifB (pt_cm (k_eq hg) (ps 10 v10) pe_int (nomark _)) (pe_revL (ps 6 v6)) (pcl c_law_pick hg (by omega) g__law_pick pass0 (pa_cons (ps 0 v0) (pa_cons (ps 6 v6) (pa_cons (ps 5 v5) pa_nil)))))))
    (pss_one (pst (i := 7) nd l7 (pe_op (k_add hg) (ps 7 v7) (pcl c_law_linked hg (by omega) g__law_linked pass0 (pa_cons (ps 0 v0) (pa_cons (ps 9 v9) (pa_cons (ps 11 v11) pa_nil))))))))))
    (C8.pss_cut (ps_for PassesOwn.never rfl (pi_r1 g_range T.n_range (pa_cons (ps 5 v5) pa_nil)) (pgn (i := 12) nd l12)
    (pss_cons (ps_setLc (i := 13) (own := [("_law_name", 14)]) rfl nd rfl rfl (sw_true rfl rfl rfl (by decide +kernel)) (pi_l hg (pcb (WC.ok hg) g_sorted T.n_sorted bt_sorted (pa_cons (ps 2 v2) pa_nil))) (blkOk_by (N := n_lview) (sc := defScope s_lview) (by decide +kernel)) (fun _ _ _ _ _ => (pg_name (i := 14) nd rfl (by first | exact .inl rfl | exact .inr rfl))) (fun _ _ _ _ _ => (pts_one (pt_cm (k_eq hg.blk) (pcl c_law_take hg.blk (by omega) (by rfl) pass0 (pa_cons (psr 0) (pa_cons pe_int pa_nil))) pe_int (nomark _)))) (fun _ _ _ _ _ => (psr 14)))
    (pss_one (ps_expr (pe_bmK hg PySem.F.plainAttrs_list PySem.F.slot_list_append PySem.F.type_list_append mt_append (ps 8 v8) (pa_cons (pe_tup (pa_cons (pct (WC.ok hg) g_tuple T.n_tuple bt_tuple (pa_cons (ps 13 v13) pa_nil)) (pa_cons (pcl c_law_number hg (by omega) g__law_number pass0 (pa_cons (ps 0 v0) pa_nil)) pa_nil))) pa_nil))))))
    (pss_one (ps_ret (pe_tup (pa_cons (pct (WC.ok hg) g_tuple T.n_tuple bt_tuple (pa_cons (pcb (WC.ok hg) g_sorted T.n_sorted bt_sorted (pa_cons (ps 1 v1) pa_nil)) pa_nil)) (pa_cons (pct (WC.ok hg) g_tuple T.n_tuple bt_tuple (pa_cons (ps 8 v8) pa_nil)) (pa_cons (pct (WC.ok hg) g_tuple T.n_tuple bt_tuple (pa_cons (pcb (WC.ok hg) g_sorted T.n_sorted bt_sorted (pa_cons (ps 7 v7) pa_nil)) pa_nil)) pa_nil)))))))))), ?_⟩
  refine st_start (σ := [some _, some _, some _, some _, some _, none, none, none, none, none, none, none, none, none, none]) rfl ?_
  walk_at "dn"
  have nk : kl ∉ [b] := fun z => nkb (List.mem_singleton.mp z)
  have nm' : ml ∉ [b] := fun z => nmb (List.mem_singleton.mp z)
  -- how many
  refine ⟨fun σ' H1 => ∃ many : Nat, σ' = [some (.ref b), some (.ref kl), some (.ref ml), some (.int most), some (.bl td), some (.int many), none, none, none, none, none, none, none, none, none] ∧ many ≤ most ∧ SS (E1 Γ) H [b] H1 [] [boxR b (n + 499)], ⟨b, _, n + 499, rfl, by omega, by omega, hb, fun r H1 r0 r1 f1 b1 => ⟨r.toNat, by rw [show r = ((r.toNat : Nat) : Int) from by omega]; rfl, by omega, (SS.box1 (E := E1 Γ) hb).draw .here f1 b1⟩⟩, ?_⟩
  rintro σ' H1 ⟨many, rfl, hmany, s1⟩
  -- an order
  refine ⟨fun σ' H2 => ∃ (lo L0 pf : Addr) (ord : List Nat), σ' = [some (.ref b), some (.ref kl), some (.ref ml), some (.int most), some (.bl td), some (.int many), some (.ref lo), some (.ref L0), some (.ref pf), none, none, none, none, none, none] ∧ ord.Perm (List.range many) ∧ lo ≠ b ∧ SS (E1 Γ) H [b] H2 [] [lstR pf [], lstR L0 [], lstR lo (ord.map fun r : Nat => V.int r), boxR b (n + 480)], ?_, ?_⟩
  · walk_at "dd"
    refine ⟨_, rfl, .of_le (by omega) (by omega) (by omega) (by omega), fun q1 hq1 => ?_⟩
    rw [rgV0]
    walk_at "di"
    have s2 := s1.newC (o := .lst ((List.range many).map fun r : Nat => V.int r)) hq1 (fun z => z)
    refine ⟨b, _, (List.range many).map (fun r : Nat => V.int r), n + 480, many, rfl, (s2.box (.tail _ (.head _))).less (by omega), by rw [List.length_map, List.length_range]; omega, .inl ⟨q1, rfl, SqL.of upd_same⟩, fun lo xs H3 hlo f3 b3 hc hpm hxl => ?_⟩
    obtain ⟨rr, hpm⟩ := hpm
    obtain ⟨ord, rfl, hord⟩ := pick_nat hpm (by rw [hxl, List.length_map, List.length_range]; omega)
    have s3 := s2.drawN (n := n + 480) (.next .here) f3 b3 hlo hc (fun z => z)
    refine ⟨szl (by simp only [List.length_nil]; omega), fun L0 hL0 => ⟨szl (by simp only [List.length_nil]; omega), fun pf hpf => ?_⟩⟩
    have s4 := (s3.newC (o := .lst []) hL0 (fun z => z)).newC (o := .lst []) hpf (fun z => z)
    refine ⟨lo, L0, pf, ord, rfl, hord, fun e => ?_, s4.subl (.cons_cons _ (.cons_cons _ (.cons_cons _ (.cons _ (.refl _)))))⟩
    obtain ⟨xs, e2⟩ := (s2.box (.tail _ (.head _))).cell
    rw [e, e2] at hlo; cases hlo
  rintro σ' H2 ⟨lo, L0, pf, ord, rfl, hord, nlo, s2⟩
  have nord : ord.Nodup := hord.nodup_iff.mpr List.nodup_range
  have lord : ord.length = many := by rw [hord.length_eq, List.length_range]
  -- the links
  refine ⟨fun σ' H3 => ∃ (L : Addr) (ts : List Addr) (ls : List Lk) (ys : List Str) (a9 a10 a11 : Option V), σ' = [some (.ref b), some (.ref kl), some (.ref ml), some (.int most), some (.bl td), some (.int many), some (.ref lo), some (.ref L), some (.ref pf), a9, a10, a11, none, none, none] ∧ Asc ys ∧ (∀ z, z ∈ ys ↔ z ∈ ks) ∧ LvI ord many td ys ys.length ls ∧ ls.length ≤ 40 ∧ SS (E1 Γ) H [b] H3 [lksF ts ls] [lstR L (ts.map V.ref), lstR pf [], boxR b (n + 300)], ?_, ?_⟩
  · walk_at "dn"
    refine wc_sortS (s2.fr.sql hkl nk) (by omega) fun ys p2 hperm hsort hp2 => ⟨p2, rfl, ⟨_, SqL.of upd_same⟩, ?_⟩
    have ay : Asc ys := ⟨sorted_pw hsort, hperm.nodup_iff.mpr ndk, fun z hz => (nmk z (hperm.mem_iff.mp hz)).ok⟩
    have ly : ys.length ≤ 3 := by rw [hperm.length_eq]; exact lks
    have s3 := (s2.newC (o := .lst (ys.map V.str)) hp2 (fun z => z)).add (lksF [] []) ⟨rfl, fun i t e h => by simp at h⟩
    refine lp_list (xs := ys.map V.str) (fun i σ H' => ∃ (L : Addr) (ts : List Addr) (ls : List Lk) (a9 a10 a11 : Option V), σ = [some (.ref b), some (.ref kl), some (.ref ml), some (.int most), some (.bl td), some (.int many), some (.ref lo), some (.ref L), some (.ref pf), a9, a10, a11, none, none, none] ∧ LvI ord many td ys i ls ∧ ls.length ≤ 12 * i ∧ SS (E1 Γ) H [b] H' [lksF ts ls] [lstR L (ts.map V.ref), lstR p2 (ys.map V.str), lstR pf [], lstR lo (ord.map fun r : Nat => V.int r), boxR b (n + 480 - 40 * i)])
      ⟨L0, [], [], none, none, none, rfl, ⟨(fun _ h => nomatch h), fun k hk => ⟨ord, hord, fun _ => rfl, ⟨.nil, .nil, (fun _ _ h => nomatch h)⟩⟩⟩, Nat.le_refl _, s3.perm (perm_v _ _ _ _ _)⟩ (fun i σ H' _ ⟨_, _, _, _, _, _, _, _, _, s⟩ => SqL.of (s.cell (.tail _ (.head _)))) ?_ ?_
    · rintro i y σ H4 hy ⟨L, ts, ls, a9, a10, a11, rfl, lv, hl, s4⟩
      rw [List.getElem?_map] at hy
      obtain ⟨kind, hki, rfl⟩ := Option.map_eq_some_iff.mp hy
      have hi := (List.getElem?_eq_some_iff.mp hki).1
      walk_at "dn"
      refine ⟨b, 4, n + 480 - 40 * i - 1, rfl, by omega, by omega, (s4.box (by walk_at "mem")).less (by omega), fun r H5 r0 r1 f5 b5 => ?_⟩
      have s5 := s4.draw (n := n + 480 - 40 * i - 1) (by walk_at "pick") f5 b5
      walk_at "di"
      refine ⟨fun σ' H6 => ∃ (l' : Addr) (ord' : List Nat), σ' = [some (.ref b), some (.ref kl), some (.ref ml), some (.int most), some (.bl td), some (.int many), some (.ref lo), some (.ref L), some (.ref pf), some (.str kind), some (.int r), some (.ref l'), none, none, none] ∧ SqL Γ.K H6 l' (ord'.map fun r : Nat => V.int r) ∧ l' ≠ b ∧ ord'.Perm (List.range many) ∧ (td = true → ord' = ord) ∧ SS (E1 Γ) H [b] H6 [lksF ts ls] [lstR L (ts.map V.ref), lstR p2 (ys.map V.str), lstR pf [], lstR lo (ord.map fun r : Nat => V.int r), boxR b (n + 480 - 40 * i - 15)], ?_, ?_⟩
      · have keep : ∀ {H6 : Hp} {R : List (RS (E1 Γ))}, SS (E1 Γ) H [b] H6 [lksF ts ls] [lstR L (ts.map V.ref), lstR p2 (ys.map V.str), lstR pf [], lstR lo (ord.map fun r : Nat => V.int r), boxR b (n + 480 - 40 * i - 1)] → SS (E1 Γ) H [b] H6 [lksF ts ls] [lstR L (ts.map V.ref), lstR p2 (ys.map V.str), lstR pf [], lstR lo (ord.map fun r : Nat => V.int r), boxR b (n + 480 - 40 * i - 15)] := fun s => s.draw (by walk_at "pick") Fr.refl ((s.box (by walk_at "mem")).less (by omega))
        have own : ∃ (l' : Addr) (ord' : List Nat), ([some (.ref b), some (.ref kl), some (.ref ml), some (.int most), some (.bl td), some (.int many), some (.ref lo), some (.ref L), some (.ref pf), some (.str kind), some (.int r), some (.ref lo), none, none, none] : L2.St) = [some (.ref b), some (.ref kl), some (.ref ml), some (.int most), some (.bl td), some (.int many), some (.ref lo), some (.ref L), some (.ref pf), some (.str kind), some (.int r), some (.ref l'), none, none, none] ∧ SqL Γ.K H5 l' (ord'.map fun r : Nat => V.int r) ∧ l' ≠ b ∧ ord'.Perm (List.range many) ∧ (td = true → ord' = ord) ∧ SS (E1 Γ) H [b] H5 [lksF ts ls] [lstR L (ts.map V.ref), lstR p2 (ys.map V.str), lstR pf [], lstR lo (ord.map fun r : Nat => V.int r), boxR b (n + 480 - 40 * i - 15)] :=
          ⟨lo, ord, rfl, SqL.of (s5.cell (.tail _ (.tail _ (.tail _ (.head _))))), nlo, hord, fun _ => rfl, keep (R := []) s5⟩
        refine br_b (fun _ => own) (fun htd => br_d (fun _ => own) (fun _ => br_d (fun _ => ?_) (fun _ => ?_)))
        · walk_at "dd"
          refine ⟨lo, _, rfl, SqL.of (s5.cell (.tail _ (.tail _ (.tail _ (.head _))))), fun p hp => ?_⟩
          have s6 := s5.newC (o := .lst (ord.map fun r : Nat => V.int r).reverse) hp (fun z => z)
          refine ⟨p, ord.reverse, rfl, ?_, fun e => ?_, (List.reverse_perm ord).trans hord, fun h => by (rw [htd] at h; cases h), keep (R := []) s6.drop⟩
          · rw [List.map_reverse]; exact SqL.of upd_same
          · obtain ⟨xs, e2⟩ := b5.cell
            rw [e, e2] at hp; cases hp
        · refine ⟨b, _, ord.map (fun r : Nat => V.int r), n + 480 - 40 * i - 15, many, rfl, b5.less (by omega), by rw [List.length_map]; omega, .inl ⟨lo, rfl, SqL.of (s5.cell (.tail _ (.tail _ (.tail _ (.head _)))))⟩, fun p xs H6 hp f6 b6 hc hpm hxl => ?_⟩
          obtain ⟨rr, hpm⟩ := hpm
          obtain ⟨ord', rfl, hord'⟩ := pick_nat hpm (by rw [hxl, List.length_map]; omega)
          have s6 := s5.draw (n := n + 480 - 40 * i - 15) (by walk_at "pick") f6 b6
          refine ⟨p, ord', rfl, SqL.of hc, fun e => ?_, hord'.trans hord, fun h => by (rw [htd] at h; cases h), s6⟩
          obtain ⟨xs, e2⟩ := b5.cell
          rw [e, e2] at hp; cases hp
      rintro σ' H6 ⟨l', ord', rfl, hl', nl', hord', htd, s6⟩
      walk_at "di"
      have lo' : ord'.length = many := by rw [hord'.length_eq, List.length_range]
      refine ⟨b, l', kind, ord', n + 480 - 40 * (i + 1), rfl, (s6.box (by walk_at "mem")).less (by omega), hl', nl', hord'.nodup_iff.mpr List.nodup_range, by omega, fun p ts2 ls2 H7 hp f7 b7 hc hk2 hkd ok2 ln2 => ?_⟩
      have s7 := (s6.drawN (n := n + 480 - 40 * (i + 1)) (q := p) (.next (.next (.next (.next .here)))) f7 b7 hp hc (fun z => z))
      refine wo_cat (s7.cell (.tail _ (.head _))) (s7.cell (.head _)) (szl (by rw [List.length_map, List.length_map, (s7.f (lksF ts ls) (.head _)).len, hk2.len]; omega)) fun p3 hp3 => ?_
      have s8 := (s7.add (lksF ts2 ls2) hk2).newC (o := .lst (ts.map V.ref ++ ts2.map V.ref)) hp3 (fun z => z)
      refine ⟨p3, ts ++ ts2, ls ++ ls2, _, _, _, rfl, lv.step ay.nd hki hord' htd hkd ok2, by rw [List.length_append]; omega, ?_⟩
      rw [List.map_append]
      refine ((s8.add (lksF (ts ++ ts2) (ls ++ ls2)) (lks_app (s8.f (lksF ts ls) (.tail _ (.head _))) (s8.f (lksF ts2 ls2) (.head _)))).sub fun z hz => ?_).subl (.cons_cons _ (.cons _ (.cons _ (.refl _))))
      rw [List.mem_singleton.mp hz]; exact .head _
    · rintro σ H4 ⟨L, ts, ls, a9, a10, a11, rfl, lv, hl, s4⟩
      rw [List.length_map] at lv hl s4
      exact ⟨L, ts, ls, ys, a9, a10, a11, rfl, ay, fun z => hperm.mem_iff, lv, by omega, (s4.draw (n := n + 300) (by walk_at "pick") Fr.refl ((s4.box (by walk_at "mem")).less (by omega))).subl (.cons_cons _ (.cons _ (.cons_cons _ (.cons _ (.refl _)))))⟩
  rintro σ' H3 ⟨L, ts, ls, ys, a9, a10, a11, rfl, ay, my, lv, hl, s3⟩
  -- the rows
  refine ⟨fun σ' H4 => ∃ (fts : List Addr) (rws : List Rw) (a12 a13 : Option V), σ' = [some (.ref b), some (.ref kl), some (.ref ml), some (.int most), some (.bl td), some (.int many), some (.ref lo), some (.ref L), some (.ref pf), a9, a10, a11, a12, a13, none] ∧ rws.length = many ∧ (∀ u ∈ rws, Asc u.1 ∧ ∀ z ∈ u.1, z ∈ ms) ∧ SS (E1 Γ) H [b] H4 [rwsF fts rws, lksF ts ls] [lstR L (ts.map V.ref), lstR pf (fts.map V.ref), boxR b (n + 10)], ?_, ?_⟩
  · walk_at "dn"
    refine ⟨_, rfl, by omega, by omega, ?_⟩
    refine lp_range (fun i σ H' => ∃ (fts : List Addr) (rws : List Rw) (a12 a13 : Option V), σ = [some (.ref b), some (.ref kl), some (.ref ml), some (.int most), some (.bl td), some (.int many), some (.ref lo), some (.ref L), some (.ref pf), a9, a10, a11, a12, a13, none] ∧ rws.length = i ∧ (∀ u ∈ rws, Asc u.1 ∧ ∀ z ∈ u.1, z ∈ ms) ∧ SS (E1 Γ) H [b] H' [rwsF fts rws, lksF ts ls] [lstR L (ts.map V.ref), lstR pf (fts.map V.ref), boxR b (n + 300 - 20 * i)])
      ⟨[], [], none, none, rfl, rfl, (fun _ h => nomatch h), s3.add (rwsF [] []) ⟨rfl, fun i t r h => by simp at h⟩⟩ ?_ (fun σ H' ⟨fts, rws, a12, a13, e, hl, hu, s⟩ => ⟨fts, rws, a12, a13, e, by rw [hl]; omega, hu, s.draw (n := n + 10) (by walk_at "pick") Fr.refl ((s.box (by walk_at "mem")).less (by omega))⟩)
    rintro i σ H4 hi ⟨fts, rws, a12, a13, rfl, hlr, hu, s4⟩
    have hi2 : i < 12 := by omega
    walk_at "dn"
    refine wc_sortS (s4.fr.sql hml nm') (by omega) fun ys2 p2 hperm hsort hp2 => ⟨p2, rfl, ⟨_, SqL.of upd_same⟩, fun D hD => ?_⟩
    have s5 := s4.newC (o := .lst (ys2.map V.str)) hp2 (fun z => z)
    have ay2 : Asc ys2 := ⟨sorted_pw hsort, hperm.nodup_iff.mpr ndm, fun z hz => (nmm z (hperm.mem_iff.mp hz)).ok⟩
    have ly2 : ys2.length ≤ 10 := by rw [hperm.length_eq]; exact lms
    refine lq_it (walk_list (xs := ys2.map V.str)) (fun j acc H' => ∃ zs : List Str, acc = zs.map V.str ∧ zs.Sublist (ys2.take j) ∧ SS (E1 Γ) H [b] H' [rwsF fts rws, lksF ts ls] [lstR D acc, lstR p2 (ys2.map V.str), lstR L (ts.map V.ref), lstR pf (fts.map V.ref), boxR b (n + 300 - 20 * i - j)])
      ⟨[], rfl, .slnil, s5.newC (o := .lst []) hD (fun z => z)⟩ (fun _ _ _ _ ⟨_, _, _, s⟩ => SqL.of (s.cell (.tail _ (.head _)))) ?_ ?_
    · rintro j y acc H6 H7 hj hl2 ⟨zs, rfl, hsub, s⟩ ⟨rfl, hy2⟩
      have hy3 : (ys2.map V.str)[j]? = some y := hy2
      rw [List.getElem?_map] at hy3
      obtain ⟨z, hz, rfl⟩ := Option.map_eq_some_iff.mp hy3
      rw [List.length_map] at hj
      walk_at "dn"
      refine ⟨rfl, b, 2, n + 300 - 20 * i - (j + 1), rfl, by omega, by omega, (s.box (by walk_at "mem")).less (by omega), fun r H8 r0 r1 f8 b8 => ?_⟩
      have s8 := s.draw (n := n + 300 - 20 * i - (j + 1)) (by walk_at "pick") f8 b8
      have htk : ys2.take (j + 1) = ys2.take j ++ [z] := by rw [List.take_add_one, hz]; rfl
      walk_at "di"
      refine br_d (fun _ => lq_add s8 hl2 (lt_size (by omega)) ⟨_, lq_len hl2, zs ++ [z], by rw [List.map_append]; rfl, ?_, s8.app⟩) (fun _ => ⟨_, Nat.le_trans hl2 (Nat.le_succ _), zs, rfl, ?_, s8⟩)
      · rw [htk]; exact hsub.append (List.Sublist.refl _)
      · rw [htk]; exact hsub.trans (List.sublist_append_left _ _)
    · rintro acc H6 hl2 ⟨zs, rfl, hsub, s⟩
      rw [List.length_map] at hsub s
      rw [List.take_length] at hsub
      walk_at "dn"
      refine ⟨ty_l (SqL.of (s.cell (p := pf) (b := false) (by walk_at "mem"))), wc_tup (SqL.of (s.cell (.head _))) fun m hm => ?_⟩
      have s7 := s.newT (xs := zs.map V.str) hm
      refine ⟨b, n + 300 - 20 * (i + 1), rfl, (s7.box (by walk_at "mem")).less (by omega), fun x H8 hx f8 b8 => ⟨szl (by simp only [List.length_cons, List.length_nil]; omega), fun T hT => ?_⟩⟩
      have s8 := (s7.draw (n := n + 300 - 20 * (i + 1)) (by walk_at "pick") f8 b8).newT (xs := [.ref m, .int x]) hT
      refine ap_ss (v := .ref T) s8 (.next (.next (.next .here))) (lt_size (by rw [List.length_map, (s8.f (rwsF fts rws) (by walk_at "mem")).len]; omega)) fun H9 s9 => ⟨fts ++ [T], rws ++ [(zs, x)], _, _, rfl, by rw [List.length_append, List.length_singleton, hlr], fun u hu2 => ?_, ?_⟩
      · rcases List.mem_append.mp hu2 with h | h
        · exact hu u h
        · rw [List.mem_singleton.mp h]
          exact ⟨⟨ay2.pw.sublist hsub, ay2.nd.sublist hsub, fun z hz => ay2.ok z (hsub.subset hz)⟩, fun z hz => hperm.mem_iff.mp (hsub.subset hz)⟩
      · rw [List.map_append]
        refine ((s9.add (rwsF (fts ++ [T]) (rws ++ [(zs, x)])) (rws_one (s9.f (rwsF fts rws) (by walk_at "mem")) (s9.tup (.head _)) (s9.tup (.tail _ (.head _))))).sub fun w hw => ?_).subl (.cons _ (.cons _ (.refl _)))
        rcases List.mem_cons.mp hw with rfl | hw
        · exact .head _
        · rw [List.mem_singleton.mp hw]
          exact .tail _ (.tail _ (.tail _ (.tail _ (.head _))))
  rintro σ' H4 ⟨fts, rws, a12, a13, rfl, hlr, hu, s4⟩
  walk_at "dn"
  refine wc_sortS (s4.fr.sql hkl nk) (by omega) fun ys2 p2 hperm hsort hp2 => wc_tup (SqL.of upd_same) fun pk hpk => ?_
  have s5 := (s4.same (Same.mk (o := .lst (ys2.map V.str)) hp2)).newT (xs := ys2.map V.str) hpk
  refine wc_tup (SqL.of (s5.cell (.tail _ (.head _)))) fun pf2 hpf2 => ?_
  have s6 := s5.newT (xs := fts.map V.ref) hpf2
  refine wc_sortL (s6.cell (.head _)) (s6.f (lksF ts ls) (by walk_at "mem")) fun p3 ts' hp3 hk3 => ?_
  have s7 := (s6.add (lksF ts' (ls.mergeSort lkLe)) hk3).same (Same.mk (o := .lst (ts'.map V.ref)) hp3)
  refine wc_tup (SqL.of upd_same) fun pl hpl => ?_
  have s8 := s7.newT (xs := ts'.map V.ref) hpl
  refine ⟨szl (by simp only [List.length_cons, List.length_nil]; omega), fun p hp => ?_⟩
  have s9 := s8.newT (xs := [.ref pk, .ref pf2, .ref pl]) hp
  have hmp := List.mergeSort_perm ls lkLe
  refine q p pk pf2 pl ys2 fts rws ts' (ls.mergeSort lkLe) _ s9.fr ((s9.box (by walk_at "mem")).less (by omega)) (s9.tup (.head _)) (s9.tup (by walk_at "mem")) ⟨sorted_pw hsort, hperm.nodup_iff.mpr ndk, fun z hz => (nmk z (hperm.mem_iff.mp hz)).ok⟩ (fun z => hperm.mem_iff) (s9.tup (by walk_at "mem")) (s9.f (rwsF fts rws) (by walk_at "mem")) (by omega) hu (s9.tup (by walk_at "mem")) (s9.f (lksF ts' (ls.mergeSort lkLe)) (by walk_at "mem")) ?_ (by rw [List.length_mergeSort]; exact hl) ⟨ls, rfl⟩ fun htd => ?_
  · rw [hlr]; exact (lv.ok my).perm hmp.symm
  · subst htd
    obtain ⟨rk, hrk⟩ := lv.timed nord
    exact ⟨rk, fun e he => hrk e (hmp.mem_iff.mp he)⟩
/-- what a drawn view is made to -/
def MadeT (K : PySem.W.Frag) (C : Addr) (H : Hp) (ks : List Str) (rws : List Rw) (ls : List Lk) (Q : VK) : Prop := ∀ (A : TAd) (B : Tb) H', Same H H' → (∀ a ∈ A.fp, H a = none) → TbP K C A B H' → RowsR B.rows rws → B.nx = B.ks.map (fun k => lkm k ls) → B.bf = B.ks.map (fun k => swp (lkm k ls)) → (∀ z, z ∈ B.ks ↔ z ∈ ks) → Q (.ref A.a) H'
def spTable (K : PySem.W.Frag) (C : Addr) : Sp := fun vs H Q _ => ∃ (p pk pf pl : Addr) (ks : List Str) (fts : List Addr) (rws : List Rw) (lts : List Addr) (ls : List Lk), vs = [.ref p] ∧ SqT K H p [.ref pk, .ref pf, .ref pl] ∧ SqT K H pk (ks.map V.str) ∧ (∀ z ∈ ks, Nm z) ∧ ks.Nodup ∧ ks.length ≤ 20 ∧ SqT K H pf (fts.map V.ref) ∧ RwP K H fts rws ∧ (∀ u ∈ rws, (∀ z ∈ u.1, Nm z) ∧ u.1.length < 60) ∧ rws.length < 1000 ∧
  SqT K H pl (lts.map V.ref) ∧ LnkP K H lts ls ∧ LksOk rws.length ks ls ∧ ls.length < 1000 ∧ MadeT K C H ks rws ls Q
def spSame (K : PySem.W.Frag) (d : Nat) : Sp := fun vs H Q _ => ∃ (x y : V) (dt : PyData), vs = [x, y] ∧ Dp K H x dt ∧ Dp K H y dt ∧ dt.depth < d ∧ few dt ∧ ∀ H', Same H H' → Q (.bl true) H'
theorem ki_int_list : kitB "int" "list" = some false := by decide +kernel
theorem ki_int_tuple : kitB "int" "tuple" = some false := by decide +kernel
theorem ki_int_bool : kitB "int" "bool" = some false := by decide +kernel
theorem ki_int_str : kitB "int" "str" = some false := by decide +kernel
theorem ki_int_int : kitB "int" "int" = some true := by decide +kernel
theorem ki_bool_list : kitB "bool" "list" = some false := by decide +kernel
theorem ki_bool_tuple : kitB "bool" "tuple" = some false := by decide +kernel
theorem ki_bool_bool : kitB "bool" "bool" = some true := by decide +kernel
theorem ki_bool_str : kitB "bool" "str" = some false := by decide +kernel
theorem ki_str_list : kitB "str" "list" = some false := by decide +kernel
theorem ki_str_tuple : kitB "str" "tuple" = some false := by decide +kernel
theorem ki_str_bool : kitB "str" "bool" = some false := by decide +kernel
theorem ki_str_str : kitB "str" "str" = some true := by decide +kernel
theorem ki_NoneType_list : kitB "NoneType" "list" = some false := by decide +kernel
theorem ki_NoneType_tuple : kitB "NoneType" "tuple" = some false := by decide +kernel
theorem ki_NoneType_bool : kitB "NoneType" "bool" = some false := by decide +kernel
theorem ki_list_list : kitB "list" "list" = some true := by decide +kernel
theorem ki_list_tuple : kitB "list" "tuple" = some false := by decide +kernel
theorem ki_tuple_list : kitB "tuple" "list" = some false := by decide +kernel
theorem ki_tuple_tuple : kitB "tuple" "tuple" = some true := by decide +kernel
def stI (e : Lk) : List V := [.int e.2.1, .str e.1, .int e.2.2]
/-- steps as tuples, row first -/
structure StP (K : PySem.W.Frag) (H : Hp) (ts : List Addr) (ls : List Lk) : Prop where
  len : ts.length = ls.length
  at_ : ∀ (i : Nat) (t : Addr) (e : Lk), ts[i]? = some t → ls[i]? = some e → SqT K H t (stI e)
theorem StP.same {K : PySem.W.Frag} {H H' : Hp} {ts : List Addr} {ls : List Lk} (h : StP K H ts ls) (s : Same H H') : StP K H' ts ls := ⟨h.len, fun i t e a b => (Fr.of (S := []) s).sqt (h.at_ i t e a b) List.not_mem_nil⟩
/-- one only goes on along them -/
def TmL (ls : List Lk) : Prop := ∃ rk : Nat → Nat, ∀ e ∈ ls, rk e.2.1 < rk e.2.2
def enL (ls : List Lk) : List Nat := ls.map fun e => e.2.2
def onB (ls : List Lk) (e : Lk) : Bool := decide (e.2.1 ∈ enL ls)
def onL (ls : List Lk) : List Lk := ls.filter (onB ls)
theorem onL_iff {ls : List Lk} : TmL ls ↔ TmL (onL ls) := by
  classical
  refine ⟨fun ⟨rk, h⟩ => ⟨rk, fun e he => h e (List.mem_filter.mp he).1⟩, fun ⟨rk, h⟩ => ⟨fun r => if r ∈ enL ls then rk r + 1 else 0, fun e he => ?_⟩⟩
  have ho : e.2.2 ∈ enL ls := List.mem_map.mpr ⟨e, he, rfl⟩
  show (if e.2.1 ∈ enL ls then rk e.2.1 + 1 else 0) < (if e.2.2 ∈ enL ls then rk e.2.2 + 1 else 0)
  rw [if_pos ho]
  split
  · rename_i h1
    have := h e (List.mem_filter.mpr ⟨he, decide_eq_true h1⟩)
    omega
  · omega
theorem onL_all {ls : List Lk} (hn : ls ≠ []) (h : (onL ls).length = ls.length) : ¬ TmL ls := by
  have hall : ∀ e ∈ ls, e.2.1 ∈ enL ls := fun e he => of_decide_eq_true (List.length_filter_eq_length_iff.mp h e he)
  rintro ⟨rk, hrk⟩
  have key : ∀ k, ∀ e ∈ ls, rk e.2.1 ≤ k → False := by
    intro k
    induction k with
    | zero =>
      intro e he hk
      obtain ⟨e', he', e1⟩ := List.mem_map.mp (hall e he)
      have := hrk e' he'
      have e1 : e'.2.2 = e.2.1 := e1
      rw [e1] at this
      omega
    | succ k ih =>
      intro e he hk
      obtain ⟨e', he', e1⟩ := List.mem_map.mp (hall e he)
      have := hrk e' he'
      have e1 : e'.2.2 = e.2.1 := e1
      rw [e1] at this
      exact ih e' he' (by omega)
  cases ls with
  | nil => exact hn rfl
  | cons e l => exact key _ e (.head _) (Nat.le_refl _)
def stD (e : Lk) : PyData := .tuple [.int e.2.1, .str e.1, .int e.2.2]
theorem StP.dp {K : PySem.W.Frag} {H : Hp} : ∀ {ts : List Addr} {ls : List Lk}, StP K H ts ls → DpAll K H (ts.map V.ref) (ls.map stD)
  | [], [], _ => .nil
  | t :: ts, e :: ls, h => .cons (.tup (h.at_ 0 t e rfl rfl) (.cons (.int _) (.cons (.str _) (.cons (.int _) .nil)))) (StP.dp ⟨by have := h.len; simpa using this, fun i t e a b => h.at_ (i + 1) t e a b⟩)
  | [], _ :: _, h => by have := h.len; simp at this
  | _ :: _, [], h => by have := h.len; simp at this
def stF {Γ : Gm} (ts : List Addr) (ls : List Lk) : PF (E1 Γ) := ⟨fun H => StP Γ.K H ts ls, fun H H' k h => ⟨h.len, fun i t e a b => sqt_loc k (h.at_ i t e a b)⟩⟩
theorem shaped_l {ds : List PyData} (h : ∀ d ∈ ds, d.canLay0 = true ∧ d.depth ≤ 20) : SeqAt.shaped (.list ds) = true := by
  have a : PyData.canLayAll0 ds = true := by
    induction ds with
    | nil => rfl
    | cons x xs ih =>
      simp only [PyData.canLayAll0, Bool.and_eq_true]
      exact ⟨(h x (.head _)).1, ih fun d hd => h d (.tail _ hd)⟩
  have b : PyData.depthAll ds ≤ 20 := by
    clear a
    induction ds with
    | nil => simp [PyData.depthAll]
    | cons x xs ih =>
      have := ih fun d hd => h d (.tail _ hd)
      have := (h x (.head _)).2
      simp only [PyData.depthAll]
      omega
  unfold SeqAt.shaped
  simp [PyData.canLay0, PyData.depth, a]
  omega
theorem wo_neLst {Γ : Gm} {H : Hp} {Q : VK} {p q : Addr} {xs : List V} {ds : List PyData} (hp : SqL Γ.K H p xs) (hd : DpAll Γ.K H xs ds) (hq : SqL Γ.K H q []) (ok : SeqAt.shaped (.list ds) = true) (k : Q (.bl (!ds.isEmpty)) H) : WO Γ (compareOp .NotEq) (.ref p) (.ref q) H Q :=
  ⟨rNeD Γ.K, fun X g => (by have := op_neD (X := X) (Nat.lt_of_le_of_lt (Nat.le_refl _) g.hu64); rw [g.K] at this; exact this), _, _, .lst hp hd, .lst hq .nil, ok, by decide, by
    have e : PyData.eqv (.list ds) (.list []) = ds.isEmpty := by cases ds <;> simp [PyData.eqv, PyData.eqvAll]
    rw [e]; exact k⟩
theorem st_shaped {ls : List Lk} (h : ∀ e ∈ ls, PyData.strOk e.1 = true) : SeqAt.shaped (.list (ls.map stD)) = true := shaped_l fun d hd => by
  obtain ⟨e, he, rfl⟩ := List.mem_map.mp hd
  simp [stD, PyData.canLay0, PyData.canLayAll0, PyData.depth, PyData.depthAll, h e he]
theorem stp_app {K : PySem.W.Frag} {H : Hp} {ts : List Addr} {ls : List Lk} {t : Addr} {e : Lk} (h : StP K H ts ls) (k : SqT K H t (stI e)) : StP K H (ts ++ [t]) (ls ++ [e]) := by
  refine ⟨by rw [List.length_append, List.length_append, h.len]; rfl, fun i u x a b => ?_⟩
  rcases Nat.lt_trichotomy i ts.length with hi | hi | hi
  · rw [List.getElem?_append_left hi] at a
    rw [List.getElem?_append_left (by rw [← h.len]; exact hi)] at b
    exact h.at_ i u x a b
  · rw [hi, List.getElem?_append_right (Nat.le_refl _)] at a
    rw [hi, h.len, List.getElem?_append_right (Nat.le_refl _)] at b
    obtain rfl : t = u := by simpa using a
    obtain rfl : e = x := by simpa using b
    exact k
  · rw [List.getElem?_append_right (by omega), List.getElem?_eq_none (by simp; omega)] at a
    cases a
def spTimed (K : PySem.W.Frag) : Sp := fun vs H Q _ => ∃ (l : Addr) (ts : List Addr) (ls : List Lk), vs = [.ref l] ∧ SqL K H l (ts.map V.ref) ∧ StP K H ts ls ∧ (∀ e ∈ ls, PyData.strOk e.1 = true) ∧ ls.length < 10000 ∧ ∀ (b : Bool) H', Same H H' → (b = true ↔ TmL ls) → Q (.bl b) H'
theorem all_rep (n : Nat) : (List.replicate n true).all id = true := by simp
def spRight : Sp := fun vs H Q _ => ∃ (b : Addr) (n : Nat), vs = [.ref b] ∧ Box b (n + 2000) H ∧ ∀ H', Fr [b] H H' → Box b n H' → Q (.bl true) H'
def spLaw (K : PySem.W.Frag) : Sp := fun vs H Q _ => ∃ (a : Addr) (ns : List Int), vs = [.ref a] ∧ SqL K H a (ns.map V.int) ∧ ns.length ≤ 63 ∧ ∀ H', Q (.bl true) H'
/-- the table's links are these -/
structure RelL (B : Tb) (ls : List Lk) : Prop where
  k : ∀ e ∈ ls, e.1 ∈ B.ks
  m : ∀ (i : Nat) (kind : Str) (m : Mp), B.ks[i]? = some kind → B.nx[i]? = some m → ∀ r o, (r, o) ∈ m ↔ (kind, r, o) ∈ ls
  nd : ls.Nodup
theorem mem_lkm {k : Str} {ls : List Lk} {r o : Nat} : (r, o) ∈ lkm k ls ↔ (k, r, o) ∈ ls := by
  unfold lkm
  rw [List.mem_map]
  refine ⟨fun ⟨e, h, g⟩ => ?_, fun h => ⟨(k, r, o), List.mem_filter.mpr ⟨h, decide_eq_true rfl⟩, rfl⟩⟩
  obtain ⟨h1, h2⟩ := List.mem_filter.mp h
  have h2 := of_decide_eq_true h2
  obtain ⟨a, b, c⟩ := e
  cases g
  cases h2
  exact h1
theorem lks_nd {ks : List Str} : ∀ {ls : List Lk}, (∀ e ∈ ls, e.1 ∈ ks) → (∀ k ∈ ks, ((lkm k ls).map (·.1)).Nodup) → ls.Nodup
  | [], _, _ => .nil
  | e :: l, h, n => by
    refine List.nodup_cons.mpr ⟨fun z => ?_, lks_nd (fun e' he => h e' (.tail _ he)) fun k hk => ?_⟩
    · have h1 := n e.1 (h e (.head _))
      rw [show e :: l = [e] ++ l from rfl, lkm_app, lkm_one rfl] at h1
      refine (List.nodup_cons.mp h1).1 (List.mem_map.mpr ⟨e.2, ?_, rfl⟩)
      obtain ⟨a, r, o⟩ := e
      exact mem_lkm.mpr z
    · have h1 := n k hk
      rw [show e :: l = [e] ++ l from rfl, lkm_app, List.map_append] at h1
      exact (List.nodup_append.mp h1).2.1
theorem LksOk.nd {n : Nat} {ks : List Str} {ls : List Lk} (h : LksOk n ks ls) : ls.Nodup := lks_nd h.k fun k hk => (h.i k hk).km
theorem RelL.of {B : Tb} {n : Nat} {ks : List Str} {ls : List Lk} (h : LksOk n ks ls) (x : B.nx = B.ks.map (fun k => lkm k ls)) (m : ∀ z, z ∈ B.ks ↔ z ∈ ks) : RelL B ls := by
  refine ⟨fun e he => (m _).mpr (h.k e he), fun i kind mm h1 h2 r o => ?_, h.nd⟩
  rw [x, List.getElem?_map, h1] at h2
  cases h2
  exact mem_lkm
theorem TbL.of {B : Tb} {ks : List Str} {ls : List Lk} (h : LksOk B.rows.length ks ls) (x : B.nx = B.ks.map (fun k => lkm k ls)) (y : B.bf = B.ks.map (fun k => swp (lkm k ls))) (m : ∀ z, z ∈ B.ks ↔ z ∈ ks) : TbL B := by
  refine ⟨by rw [x, List.length_map], by rw [y, List.length_map], fun i mm b h1 h2 => ?_⟩
  rw [x, List.getElem?_map] at h1
  rw [y, List.getElem?_map] at h2
  obtain ⟨k, hk, rfl⟩ := Option.map_eq_some_iff.mp h1
  rw [hk] at h2
  cases h2
  exact h.i k ((m k).mp (List.mem_of_getElem? hk))
theorem RelL.edg {B : Tb} {ls : List Lk} (h : RelL B ls) (l : TbL B) {r o : Nat} : Edg B r o ↔ ∃ k, (k, r, o) ∈ ls := by
  refine ⟨fun ⟨i, m, e, hm⟩ => ?_, fun ⟨k, hk⟩ => ?_⟩
  · have hi := (List.getElem?_eq_some_iff.mp e).1
    have hl := l.ln
    exact ⟨_, (h.m i _ m (List.getElem?_eq_getElem (by omega)) e r o).mp hm⟩
  · obtain ⟨i, hi⟩ := List.mem_iff_getElem?.mp (h.k _ hk)
    obtain ⟨m, b, ak, _⟩ := l.at_ hi
    exact ⟨i, m, ak.x, (h.m i _ m ak.k ak.x r o).mpr hk⟩
theorem RelL.tmd {B : Tb} {ls : List Lk} (h : RelL B ls) (l : TbL B) : Tmd (Edg B) ↔ TmL ls :=
  ⟨fun ⟨rk, hr⟩ => ⟨rk, fun e he => hr _ _ ((h.edg l).mpr ⟨e.1, he⟩)⟩, fun ⟨rk, hr⟩ => ⟨rk, fun r o e => by
    obtain ⟨k, hk⟩ := (h.edg l).mp e
    exact hr _ hk⟩⟩
/-- the links of one kind are changed -/
theorem TbL.set {B : Tb} {i : Nat} {m' b' : Mp} (h : TbL B) (k : LkI B.rows.length m' b') : TbL { B with nx := B.nx.set i m', bf := B.bf.set i b' } := by
  refine ⟨by show (B.nx.set i m').length = _; rw [List.length_set]; exact h.ln, by show (B.bf.set i b').length = _; rw [List.length_set]; exact h.lb, fun j m b h1 h2 => ?_⟩
  have h1 : (B.nx.set i m')[j]? = some m := h1
  have h2 : (B.bf.set i b')[j]? = some b := h2
  rw [List.getElem?_set] at h1 h2
  by_cases hij : i = j
  · subst hij
    rw [if_pos rfl] at h1 h2
    split at h1
    · split at h2
      · cases h1; cases h2; exact k
      · cases h2
    · cases h1
  · rw [if_neg hij] at h1 h2
    exact h.ok j m b h1 h2
theorem RelL.set {B : Tb} {i : Nat} {kind : Str} {m m' b b' : Mp} {ls ls' : List Lk} (h : RelL B ls) (ak : AtK B kind i m b) (ndk : B.ks.Nodup) (k : ∀ e ∈ ls', e.1 ∈ B.ks) (nd : ls'.Nodup) (s : ∀ r o, (r, o) ∈ m' ↔ (kind, r, o) ∈ ls') (t : ∀ k r o, k ≠ kind → ((k, r, o) ∈ ls ↔ (k, r, o) ∈ ls')) : RelL { B with nx := B.nx.set i m', bf := B.bf.set i b' } ls' := by
  refine ⟨k, fun j k' mm h1 h2 r o => ?_, nd⟩
  have h1 : B.ks[j]? = some k' := h1
  have h2 : (B.nx.set i m')[j]? = some mm := h2
  rw [List.getElem?_set] at h2
  by_cases hij : i = j
  · subst hij
    rw [if_pos rfl, if_pos (List.getElem?_eq_some_iff.mp ak.x).1] at h2
    cases h2
    have e := ak.k.symm.trans h1
    cases e
    exact s r o
  · rw [if_neg hij] at h2
    have ne : k' ≠ kind := fun z => hij ((List.getElem?_inj (List.getElem?_eq_some_iff.mp ak.k).1 ndk).mp (by rw [ak.k, h1, z]))
    rw [h.m j k' mm h1 h2]
    exact t k' r o ne
theorem mem_erase {α : Type} {l : List α} {j : Nat} {e x : α} (nd : l.Nodup) (h : l[j]? = some e) : x ∈ l.eraseIdx j ↔ x ∈ l ∧ x ≠ e := by
  rw [List.mem_eraseIdx_iff_getElem?]
  constructor
  · rintro ⟨i, hi, e1⟩
    refine ⟨List.mem_of_getElem? e1, fun z => hi ?_⟩
    exact (List.getElem?_inj (List.getElem?_eq_some_iff.mp e1).1 nd).mp (by rw [e1, h, z])
  · rintro ⟨hm, ne⟩
    obtain ⟨i, hi⟩ := List.mem_iff_getElem?.mp hm
    exact ⟨i, fun z => ne (by rw [z, h] at hi; cases hi; rfl), hi⟩
theorem LkI.len {n : Nat} {m b : Mp} (h : LkI n m b) : m.length ≤ n ∧ b.length ≤ n := by
  have a := nodup_len (m.map (·.1)) (List.range n) h.km fun x hx => by
    obtain ⟨e, he, rfl⟩ := List.mem_map.mp hx
    exact List.mem_range.mpr (h.lt e.1 e.2 he).1
  have c := nodup_len (b.map (·.1)) (List.range n) h.kb fun x hx => by
    obtain ⟨e, he, rfl⟩ := List.mem_map.mp hx
    exact List.mem_range.mpr (h.lt e.2 e.1 ((h.inv e.2 e.1).mpr he)).2
  rw [List.length_map, List.length_range] at a c
  exact ⟨a, c⟩
theorem Rch.inv {n : Nat} {m b : Mp} (h : LkI n m b) {x y : Nat} (r : Rch m x y) : Rch b y x := by
  induction r with
  | refl => exact .refl _
  | step h1 _ ih => exact ih.snoc ((h.inv _ _).mp h1)
/-- the end of a line may be linked to the first row of another one -/
theorem two_lines {n : Nat} {m b : Mp} {l1 l2 : List Nat} {f1 e1 f2 e2 : Nat} (h : LkI n m b) (a : LineOk n m b l1 f1 e1) (c : LineOk n m b l2 f2 e2) (ne : f1 ≠ f2) : ¬ Rch m f2 e1 := fun z =>
  ne (Rch.det h.kb (Rch.inv h a.r) (Rch.inv h z) a.fb c.fb)
theorem perm_r {α : Type} (a b c d : α) : [a, b, c, d].Perm [c, b, a, d] := (by decide : ([0, 1, 2, 3] : List Nat).Perm [2, 1, 0, 3]).map fun i => [a, b, c, d].getD i a
theorem RelL.cut {B : Tb} {ls : List Lk} {i j row oth : Nat} {kind : Str} {m b b' : Mp} (h : RelL B ls) (l : TbL B) (ndk : B.ks.Nodup) (ak : AtK B kind i m b) (he : ls[j]? = some (kind, row, oth)) : RelL { B with nx := B.nx.set i (m.filter fun e => decide (e.1 ≠ row)), bf := B.bf.set i b' } (ls.eraseIdx j) := by
  have lI := l.ok i m b ak.x ak.b
  have hm := h.m i kind m ak.k ak.x
  refine h.set ak ndk (fun e he' => h.k e (List.mem_of_mem_eraseIdx he')) (h.nd.sublist (List.eraseIdx_sublist ..)) (fun r o => ?_) fun k r o ne => ?_
  · rw [List.mem_filter, hm, mem_erase h.nd he]
    refine and_congr_right fun hin => ?_
    simp only [decide_eq_true_eq, ne_eq]
    refine not_congr ⟨fun e => ?_, fun e => by cases e; rfl⟩
    have e : r = row := e
    subst e
    have e2 : some o = some oth := (nxt_of lI.km ((hm r o).mpr hin)).symm.trans (nxt_of lI.km ((hm r oth).mpr (List.mem_of_getElem? he)))
    cases e2
    rfl
  · rw [mem_erase h.nd he]
    exact ⟨fun z => ⟨z, fun e => by cases e; exact ne rfl⟩, fun z => z.1⟩
theorem RelL.link {B : Tb} {ls : List Lk} {i row oth : Nat} {kind : Str} {m b b' : Mp} (h : RelL B ls) (ndk : B.ks.Nodup) (ak : AtK B kind i m b) (n1 : nxt m row = none) : RelL { B with nx := B.nx.set i (m ++ [(row, oth)]), bf := B.bf.set i b' } (ls ++ [(kind, row, oth)]) := by
  have hm := h.m i kind m ak.k ak.x
  refine h.set ak ndk (fun e he' => ?_) ?_ (fun r o => ?_) fun k r o ne => ?_
  · rcases List.mem_append.mp he' with h1 | h1
    · exact h.k e h1
    · rw [List.mem_singleton.mp h1]; exact ak.mem
  · refine List.nodup_append.mpr ⟨h.nd, List.nodup_cons.mpr ⟨List.not_mem_nil, .nil⟩, fun u hu v hv z => ?_⟩
    rw [List.mem_singleton.mp hv] at z
    subst z
    exact nxt_none.mp n1 oth ((hm row oth).mpr hu)
  · rw [List.mem_append, List.mem_append, hm, List.mem_singleton, List.mem_singleton]
    exact or_congr_right ⟨fun e => by cases e; rfl, fun e => by cases e; rfl⟩
  · rw [List.mem_append, List.mem_singleton]
    exact ⟨.inl, fun z => z.resolve_right fun e => by cases e; exact ne rfl⟩
theorem TbL.cut {B : Tb} {i row oth : Nat} {kind : Str} {m b : Mp} (l : TbL B) (ak : AtK B kind i m b) (h : (row, oth) ∈ m) : TbL { B with nx := B.nx.set i (m.filter fun e => decide (e.1 ≠ row)), bf := B.bf.set i (b.filter fun e => decide (e.1 ≠ oth)) } := l.set ((l.ok i m b ak.x ak.b).cut h)
theorem TbL.link {B : Tb} {i row oth : Nat} {kind : Str} {m b : Mp} (l : TbL B) (ak : AtK B kind i m b) (hr : row < B.rows.length) (ho : oth < B.rows.length) (k1 : nxt m row = none) (k2 : nxt b oth = none) (nr : ¬ Rch m oth row) : TbL { B with nx := B.nx.set i (m ++ [(row, oth)]), bf := B.bf.set i (b ++ [(oth, row)]) } := l.set ((l.ok i m b ak.x ak.b).link hr ho k1 k2 nr)
theorem map_erase {α β : Type} (f : α → β) : ∀ (l : List α) (j : Nat), (l.map f).eraseIdx j = (l.eraseIdx j).map f
  | [], _ => rfl
  | _ :: _, 0 => rfl
  | a :: l, j + 1 => by show f a :: (l.map f).eraseIdx j = f a :: (l.eraseIdx j).map f; rw [map_erase f l j]
theorem heads_nd (n : Nat) (p : Nat → Bool) : (((List.range n).filter p).map some).Nodup := List.Pairwise.map _ (fun a b (h : a ≠ b) z => h (by injection z)) (List.nodup_range.filter _)
theorem line_last {l : List Nat} {e : Nat} (h : l.getLast? = some e) : atI (l.map fun r : Nat => V.int r) (-1) = some (V.int e) := by
  obtain ⟨pre, rfl⟩ := List.getLast?_eq_some_iff.mp h
  rw [List.map_append]
  exact atI_last _ _
theorem line_first {l : List Nat} {f : Nat} (h : l.head? = some f) : atI (l.map fun r : Nat => V.int r) 0 = some (V.int f) := atG (j := 0) rfl (by
  cases l with
  | nil => cases h
  | cons x r => cases h; rfl)
/-- two of the lines -/
theorem pick2 {ts : List Addr} {lns : List (List Nat)} {K : PySem.W.Frag} {H : Hp} {xs r : List V} (h : LnP K H ts lns) (nd : (lns.map List.head?).Nodup) (p : (xs ++ r).Perm (ts.map V.ref)) (hl : xs.length = 2) :
    ∃ (t1 t2 : Addr) (l1 l2 : List Nat), xs = [.ref t1, .ref t2] ∧ (∃ i : Nat, ts[i]? = some t1 ∧ lns[i]? = some l1) ∧ (∃ i : Nat, ts[i]? = some t2 ∧ lns[i]? = some l2) ∧ l1.head? ≠ l2.head? := by
  have hle := h.len
  have ix : ∀ {i j : Nat} (hi : i < lns.length) (hj : j < lns.length), lns[i].head? = lns[j].head? → i = j := fun {i} {j} hi hj e => by
    refine (List.getElem?_inj (l := lns.map List.head?) (by rw [List.length_map]; exact hi) nd).mp ?_
    rw [List.getElem?_map, List.getElem?_map, List.getElem?_eq_getElem hi, List.getElem?_eq_getElem hj]
    exact congrArg some e
  have ndt : ts.Nodup := List.pairwise_iff_getElem.mpr fun i j hi hj hij e => by
    have h1 := h.at_ i ts[i] (lns[i]'(by omega)) (List.getElem?_eq_getElem hi) (List.getElem?_eq_getElem (by omega))
    have h2 := h.at_ j ts[j] (lns[j]'(by omega)) (List.getElem?_eq_getElem hj) (List.getElem?_eq_getElem (by omega))
    rw [e, h2] at h1
    have h3 : (lns[j]'(by omega)).map (fun r : Nat => V.int r) = (lns[i]'(by omega)).map fun r : Nat => V.int r := by injection h1 with h1; injection h1
    have h4 : lns[j]'(by omega) = lns[i]'(by omega) := (List.map_inj_right fun a b z => by injection z with z; omega).mp h3
    have := ix (show i < lns.length by omega) (show j < lns.length by omega) (by rw [h4])
    omega
  obtain ⟨u, v, rfl⟩ : ∃ u v, xs = [u, v] := by
    match xs, hl with
    | [u, v], _ => exact ⟨u, v, rfl⟩
  have hu : u ∈ ts.map V.ref := p.mem_iff.mp (.head _)
  have hv : v ∈ ts.map V.ref := p.mem_iff.mp (.tail _ (.head _))
  obtain ⟨t1, h1, rfl⟩ := List.mem_map.mp hu
  obtain ⟨t2, h2, rfl⟩ := List.mem_map.mp hv
  have hne : t1 ≠ t2 := fun e => by
    have hn : ((V.ref t1 :: V.ref t2 :: r)).Nodup := p.nodup_iff.mpr (List.Pairwise.map _ (fun a b (hab : a ≠ b) z => hab (by injection z)) ndt)
    exact (List.nodup_cons.mp hn).1 (by rw [e]; exact .head _)
  obtain ⟨i, hi⟩ := List.mem_iff_getElem?.mp h1
  obtain ⟨j, hj⟩ := List.mem_iff_getElem?.mp h2
  have li := (List.getElem?_eq_some_iff.mp hi).1
  have lj := (List.getElem?_eq_some_iff.mp hj).1
  refine ⟨t1, t2, lns[i]'(by omega), lns[j]'(by omega), rfl, ⟨i, hi, List.getElem?_eq_getElem (by omega)⟩, ⟨j, hj, List.getElem?_eq_getElem (by omega)⟩, fun e => ?_⟩
  have hij := ix (show i < lns.length by omega) (show j < lns.length by omega) e
  subst hij
  rw [hi] at hj
  cases hj
  exact hne rfl
theorem cut_1 (a : V) (l : List V) : cutV (a :: l) none (some 1) = [a] := by
  unfold cutV
  simp [HT.sIx]
/-- the table whose links all go up -/
structure Up (B : Tb) (k : Str) (i : Nat) (m b : Mp) : Prop where
  ks : B.ks = [k]
  rl : B.rows.length = i
  nx : B.nx = [m]
  bf : B.bf = [b]
  lk : LkI i m b
  up : ∀ r o, (r, o) ∈ m → r < o
theorem Up.tbl {B : Tb} {k : Str} {i : Nat} {m b : Mp} (h : Up B k i m b) : TbL B := by
  refine ⟨by rw [h.nx, h.ks]; rfl, by rw [h.bf, h.ks]; rfl, fun j m' b' e e' => ?_⟩
  rw [h.nx] at e
  rw [h.bf] at e'
  rw [h.rl]
  match j, e, e' with
  | 0, e, e' => cases e; cases e'; exact h.lk
theorem Up.tmd {B : Tb} {k : Str} {i : Nat} {m b : Mp} (h : Up B k i m b) : Tmd (Edg B) := ⟨fun x => x, fun r o ⟨j, m', e, hm⟩ => by
  rw [h.nx] at e
  match j, e with
  | 0, e => cases e; exact h.up r o hm⟩
theorem rch_up {m : Mp} (up : ∀ r o, (r, o) ∈ m → r < o) {a b : Nat} (h : Rch m a b) : a ≤ b := rch_le (rk := fun x => x) up h
theorem erase_lnk {K : PySem.W.Frag} {H : Hp} {ts : List Addr} {ls : List Lk} (h : LnkP K H ts ls) (j : Nat) : LnkP K H (ts.eraseIdx j) (ls.eraseIdx j) := by
  refine ⟨by rw [List.length_eraseIdx, List.length_eraseIdx, h.len], fun i t e a b => ?_⟩
  rw [List.getElem?_eraseIdx] at a b
  split at a
  · rw [if_pos (by assumption)] at b; exact h.at_ i t e a b
  · rw [if_neg (by assumption)] at b; exact h.at_ _ t e a b
/-- the law's table beside its list of links -/
structure S7 (Γ : Gm) (C : Addr) (H : Hp) (b : Addr) (n : Nat) (A : TAd) (B : Tb) (kl l6 : Addr) (ks : List Str) (ts : List Addr) (ls : List Lk) (H' : Hp) : Prop where
  s : SS (E1 Γ) H [b] H' [lksF ts ls] [boxR b n, tbR C A B, lstR l6 (ts.map V.ref), lstR kl (ks.map V.str)]
  L : TbL B
  rel : RelL B ls
  ks : ∀ z, z ∈ B.ks ↔ z ∈ ks
  lk : B.ks.length ≤ 20
  rl : B.rows.length ≤ 11
section
variable {Γ : Gm} {C b kl l6 : Addr} {H H' H2 : Hp} {n n' : Nat} {A : TAd} {B : Tb} {ks : List Str} {ts : List Addr} {ls : List Lk}
theorem S7.same (w : S7 Γ C H b n A B kl l6 ks ts ls H') (s : Same H' H2) : S7 Γ C H b n A B kl l6 ks ts ls H2 := ⟨w.s.same s, w.L, w.rel, w.ks, w.lk, w.rl⟩
theorem S7.draw (w : S7 Γ C H b n A B kl l6 ks ts ls H') (f : Fr [b] H' H2) (h : Box b n' H2) : S7 Γ C H b n' A B kl l6 ks ts ls H2 := ⟨w.s.draw .here f h, w.L, w.rel, w.ks, w.lk, w.rl⟩
theorem S7.tb (w : S7 Γ C H b n A B kl l6 ks ts ls H') : TbP Γ.K C A B H' := w.s.tb (.tail _ (.head _))
theorem S7.box (w : S7 Γ C H b n A B kl l6 ks ts ls H') : Box b n H' := w.s.box (.head _)
theorem S7.lk6 (w : S7 Γ C H b n A B kl l6 ks ts ls H') : H' l6 = some (.lst (ts.map V.ref)) := w.s.cell (p := l6) (b := false) (.tail _ (.tail _ (.head _)))
theorem S7.kc (w : S7 Γ C H b n A B kl l6 ks ts ls H') : H' kl = some (.lst (ks.map V.str)) := w.s.cell (p := kl) (b := false) (.tail _ (.tail _ (.tail _ (.head _))))
theorem S7.lnk (w : S7 Γ C H b n A B kl l6 ks ts ls H') : LnkP Γ.K H' ts ls := w.s.f (lksF ts ls) (.head _)
theorem S7.nb (w : S7 Γ C H b n A B kl l6 ks ts ls H') : b ∉ A.fp := fun z => (List.nodup_append.mp w.s.nd).2.2 b (.head _) b (mem_fps (R := [tbR C A B, lstR l6 (ts.map V.ref), lstR kl (ks.map V.str)]) (.head _) b z) rfl
theorem S7.nk (w : S7 Γ C H b n A B kl l6 ks ts ls H') : kl ≠ b := fun e => (List.nodup_append.mp w.s.nd).2.2 b (.head _) kl (mem_fps (R := [tbR C A B, lstR l6 (ts.map V.ref), lstR kl (ks.map V.str)]) (.tail _ (.tail _ (.head _))) kl (.head _)) e.symm
theorem S7.tmd (w : S7 Γ C H b n A B kl l6 ks ts ls H') : Tmd (Edg B) ↔ TmL ls := w.rel.tmd w.L
end
theorem LnkP.dp {K : PySem.W.Frag} {H : Hp} : ∀ {ts : List Addr} {ls : List Lk}, LnkP K H ts ls → DpAll K H (ts.map V.ref) (ls.map lkD)
  | [], [], _ => .nil
  | t :: ts, e :: ls, h => .cons (.tup (h.at_ 0 t e rfl rfl) (.cons (.str _) (.cons (.int _) (.cons (.int _) .nil)))) (LnkP.dp ⟨by have := h.len; simpa using this, fun i t e a b => h.at_ (i + 1) t e a b⟩)
  | [], _ :: _, h => by have := h.len; simp at this
  | _ :: _, [], h => by have := h.len; simp at this
theorem lk_shaped {ls : List Lk} (h : ∀ e ∈ ls, PyData.strOk e.1 = true) : SeqAt.shaped (.list (ls.map lkD)) = true := shaped_l fun d hd => by
  obtain ⟨e, he, rfl⟩ := List.mem_map.mp hd
  simp [lkD, PyData.canLay0, PyData.canLayAll0, PyData.depth, PyData.depthAll, h e he]
theorem due7 {Γ : Gm} {C b kl l6 : Addr} {H H' : Hp} {n : Nat} {A : TAd} {B : Tb} {ks : List Str} {ts : List Addr} {ls : List Lk} {v0 v1 v2 v3 v4 v5 v6 v7 v8 v9 v10 v11 v12 v13 v14 v15 : Option V} {D : Addr} {Q' : VK} {E : XK} (w : S7 Γ C H b n A B kl l6 ks ts ls H') (hD : H' D = none) (hll : ls.length < 1000) (k : ∀ (bl : Bool) H2, (bl = true ↔ TmL ls) → S7 Γ C H b n A B kl l6 ks ts ls H2 → Q' (.bl bl) H2) :
    LQ (Itl Γ.K l6) (gTup Γ.K 3 (gC (gName 9) (gC (gName 10) (gC (gName 11) gN)))) tYes (tTup (tCons (tS 10) (tCons (tS 9) (tCons (tS 11) tNil)))) (List.map (fun x => x.snd) [(Str.ofString "_law_kind", 9), (Str.ofString "_law_row", 10), (Str.ofString "_law_other", 11)])
      [v0, v1, v2, v3, v4, v5, v6, v7, v8, v9, v10, v11, v12, v13, v14, v15] D (fun x H1 => spTimed Γ.K [x] H1 Q' E) H' := by
  have hlen := w.lnk.len
  have it : ∀ {i : Nat} {x : V}, (ts.map V.ref)[i]? = some x → ∃ t e, ts[i]? = some t ∧ ls[i]? = some e ∧ x = .ref t := fun {i} {x} h => by
    rw [List.getElem?_map] at h
    obtain ⟨t, ht, rfl⟩ := Option.map_eq_some_iff.mp h
    have hi := (List.getElem?_eq_some_iff.mp ht).1
    exact ⟨t, _, ht, List.getElem?_eq_getElem (by omega), rfl⟩
  refine lq_it (walk_list (xs := ts.map V.ref)) (fun i acc H2 => ∃ ts2 : List Addr, acc = ts2.map V.ref ∧ SS (E1 Γ) H' [] H2 [stF ts2 (ls.take i)] [lstR D acc])
    ⟨[], rfl, (SS.start0.newC (o := .lst []) hD (fun z => z)).add (stF [] []) ⟨rfl, fun i t e a => by simp at a⟩⟩ (fun _ _ _ _ ⟨_, _, s⟩ => s.fr.sql (SqL.of w.lk6) List.not_mem_nil) ?_ ?_
  · rintro i x acc H2 H3 hi hl2 ⟨ts2, rfl, s⟩ ⟨rfl, hx2⟩
    obtain ⟨t, e, h1, h2, rfl⟩ := it hx2
    have st : StP Γ.K H3 ts2 _ := s.f (stF ts2 _) (.head _)
    rw [List.length_map] at hi
    have hsq : SqT Γ.K H3 t (lkI e) := s.fr.sqt (w.lnk.at_ i t e h1 h2) List.not_mem_nil
    refine gt_of hsq rfl ?_
    walk_at "dn"
    refine ⟨rfl, szl (by simp only [List.length_cons, List.length_nil]; omega), fun T hT => ?_⟩
    have s4 := s.newT (xs := stI e) hT
    refine lq_add s4 hl2 (lt_size (by omega)) ⟨_, lq_len hl2, ts2 ++ [T], by rw [List.map_append]; rfl, ?_⟩
    rw [List.take_add_one, h2]
    have s7 := s4.app (y := .ref T)
    exact (s7.add (stF (ts2 ++ [T]) (ls.take i ++ [e])) (stp_app (s7.f (stF ts2 _) (.tail _ (.head _))) (s7.tup (.head _)))).sub fun w hw => by
      rw [List.mem_singleton.mp hw]; exact .head _
  · rintro acc H2 hl2 ⟨ts2, rfl, s⟩
    rw [List.length_map, hlen, List.take_length] at s
    exact ⟨D, ts2, ls, rfl, SqL.of (s.cell (.head _)), s.f (stF ts2 ls) (.head _), fun e he => w.tb.ka.ok _ (w.rel.k e he), by omega, fun bl H3 s3 hbl => k bl H3 hbl (w.same (s.fr.same.trans s3))⟩
theorem LkP.locx {K : PySem.W.Frag} {MC : Addr → Prop} {C : Addr} (n : ¬ MC C) (t : Tr) (a : Addr) : Loc MC [] fun H => LkP K H C t a := fun H H' k ⟨dx, p, h, hp⟩ => ⟨dx, p, k _ _ h (.inr n), TrP.loc t p H H' k hp⟩
def lookF {Γ : Gm} (C : Addr) (t : Tr) (a : Addr) : PF (E1 Γ) := ⟨fun H => LkP Γ.K H C t a, LkP.locx (fun z => z) t a⟩
theorem stepB_edg {B : Tb} {k : Str} {r o : Nat} (h : TbL B) (e : stepB B k 1 r = some o) : Edg B r o := by
  cases hi : ixK B.ks k with
  | none => unfold stepB at e; rw [hi] at e; cases e
  | some i =>
    obtain ⟨m, b, ak, lI⟩ := h.at_ (ixK_some hi)
    rw [stepB_some hi ak, if_pos (by decide)] at e
    exact ⟨i, m, ak.x, nxt_mem e⟩
def spRing (K : PySem.W.Frag) (C : Addr) : Sp := fun vs H Q _ => ∃ (b kl : Addr) (A : TAd) (B : Tb) (ks : List Str) (n : Nat), vs = [.ref b, .ref A.a, .int B.rows.length, .ref kl] ∧ Box b (n + 40) H ∧ TbP K C A B H ∧ TbL B ∧ b ∉ A.fp ∧ SqL K H kl (ks.map V.str) ∧ kl ≠ b ∧ 0 < ks.length ∧ ks.length < 1000 ∧ (∀ k ∈ ks, Nm k) ∧ B.rows.length < 10000 ∧ Tmd (Edg B) ∧
  ∀ H', Fr [b] H H' → Box b n H' → Q (.bl false) H'
def mv (n : Nat) (ls : List Lk) : List Lk := ls.map fun e => (e.1, e.2.1 + n, e.2.2 + n)
def shf (n : Nat) (m : Mp) : Mp := m.map fun e => (e.1 + n, e.2 + n)
def cps (n : Nat) (ls : List Lk) : Nat → List Lk
  | 0 => []
  | c + 1 => cps n ls c ++ mv (n * c) ls
theorem mem_mv {n : Nat} {ls : List Lk} {k : Str} {r o : Nat} : (k, r, o) ∈ mv n ls ↔ ∃ r' o', r = r' + n ∧ o = o' + n ∧ (k, r', o') ∈ ls := by
  unfold mv
  rw [List.mem_map]
  exact ⟨fun ⟨⟨k', r', o'⟩, h, e⟩ => by cases e; exact ⟨r', o', rfl, rfl, h⟩, fun ⟨r', o', h1, h2, h⟩ => ⟨(k, r', o'), h, by rw [h1, h2]⟩⟩
theorem lkm_mv {n : Nat} {k : Str} : ∀ {ls : List Lk}, lkm k (mv n ls) = shf n (lkm k ls)
  | [] => rfl
  | e :: l => by
    show lkm k ([(e.1, e.2.1 + n, e.2.2 + n)] ++ mv n l) = shf n (lkm k ([e] ++ l))
    rw [lkm_app, lkm_app, lkm_mv]
    by_cases h : e.1 = k
    · rw [lkm_one h, lkm_one (e := (e.1, e.2.1 + n, e.2.2 + n)) h]; rfl
    · rw [lkm_oth h, lkm_oth (e := (e.1, e.2.1 + n, e.2.2 + n)) h]; rfl
theorem shf_swp {n : Nat} {m : Mp} : swp (shf n m) = shf n (swp m) := by
  unfold swp shf
  rw [List.map_map, List.map_map]
  rfl
theorem mem_shf {n : Nat} {m : Mp} {r o : Nat} : (r, o) ∈ shf n m ↔ ∃ r' o', r = r' + n ∧ o = o' + n ∧ (r', o') ∈ m := by
  unfold shf
  rw [List.mem_map]
  exact ⟨fun ⟨⟨r', o'⟩, h, e⟩ => by cases e; exact ⟨r', o', rfl, rfl, h⟩, fun ⟨r', o', h1, h2, h⟩ => ⟨(r', o'), h, by rw [h1, h2]⟩⟩
theorem nd_join {n : Nat} {a b : Mp} (ha : (a.map (·.1)).Nodup) (hb : (b.map (·.1)).Nodup) (l : ∀ r o, (r, o) ∈ a → r < n) : ((a ++ shf n b).map (·.1)).Nodup := by
  rw [List.map_append]
  refine List.nodup_append.mpr ⟨ha, ?_, fun u hu v hv e => ?_⟩
  · have : (shf n b).map (·.1) = (b.map (·.1)).map (· + n) := by unfold shf; rw [List.map_map, List.map_map]; rfl
    rw [this]
    exact List.Pairwise.map _ (fun x y (h : x ≠ y) z => h (by omega)) hb
  · obtain ⟨⟨r, o⟩, h1, rfl⟩ := List.mem_map.mp hu
    obtain ⟨⟨r', o'⟩, h2, rfl⟩ := List.mem_map.mp hv
    obtain ⟨r2, o2, h3, _, _⟩ := mem_shf.mp h2
    have := l r o h1
    have e : r = r' := e
    omega
theorem LkI.join {n1 n2 : Nat} {a b : Mp} (ha : LkI n1 a (swp a)) (hb : LkI n2 b (swp b)) : LkI (n1 + n2) (a ++ shf n1 b) (swp (a ++ shf n1 b)) := by
  refine ⟨nd_join ha.km hb.km fun r o h => (ha.lt r o h).1, ?_, fun r o => mem_swp.symm, fun r o h => ?_, ?_⟩
  · rw [swp_app, shf_swp]
    exact nd_join ha.kb hb.kb fun r o h => (ha.lt o r (mem_swp.mp h)).2
  · rcases List.mem_append.mp h with h | h
    · have := ha.lt r o h; omega
    · obtain ⟨r', o', h1, h2, h3⟩ := mem_shf.mp h
      have := hb.lt r' o' h3
      omega
  · obtain ⟨ra, h1⟩ := ha.ac
    obtain ⟨rb, h2⟩ := hb.ac
    refine ⟨fun r => if r < n1 then ra r else rb (r - n1), fun r o h => ?_⟩
    show (if r < n1 then ra r else rb (r - n1)) < (if o < n1 then ra o else rb (o - n1))
    rcases List.mem_append.mp h with h | h
    · have l := ha.lt r o h
      rw [if_pos l.1, if_pos l.2]
      exact h1 r o h
    · obtain ⟨r', o', h3, h4, h5⟩ := mem_shf.mp h
      rw [if_neg (by omega), if_neg (by omega), h3, h4, Nat.add_sub_cancel, Nat.add_sub_cancel]
      exact h2 r' o' h5
theorem LksOk.join {n1 n2 : Nat} {ks : List Str} {l1 l2 : List Lk} (a : LksOk n1 ks l1) (b : LksOk n2 ks l2) : LksOk (n1 + n2) ks (l1 ++ mv n1 l2) := by
  refine ⟨fun e he => ?_, fun k hk => ?_⟩
  · rcases List.mem_append.mp he with h | h
    · exact a.k e h
    · obtain ⟨e', h1, rfl⟩ := List.mem_map.mp h
      exact b.k e' h1
  · rw [lkm_app, lkm_mv]
    exact LkI.join (a.i k hk) (b.i k hk)
theorem LksOk.nil' {n : Nat} {ks : List Str} : LksOk n ks [] := ⟨(fun _ h => nomatch h), fun k _ => .nil⟩
theorem LksOk.cps {n : Nat} {ks : List Str} {ls : List Lk} (a : LksOk n ks ls) : ∀ c, LksOk (n * c) ks (cps n ls c)
  | 0 => LksOk.nil'
  | c + 1 => by
    have := LksOk.join (LksOk.cps a c) a
    rw [show n * (c + 1) = n * c + n from by rw [Nat.mul_add, Nat.mul_one]]
    exact this
theorem LkI.sw {n : Nat} {m b : Mp} (h : LkI n m b) : LkI n m (swp m) := by
  have nm : m.Nodup := (List.pairwise_map.mp h.km).imp fun z e => z (congrArg _ e)
  have nb : b.Nodup := (List.pairwise_map.mp h.kb).imp fun z e => z (congrArg _ e)
  have nsw : (swp m).Nodup := List.Pairwise.map _ (fun x y (z : x ≠ y) e => z (by
    obtain ⟨x1, x2⟩ := x
    obtain ⟨y1, y2⟩ := y
    cases e
    rfl)) nm
  have p : b.Perm (swp m) := (List.perm_ext_iff_of_nodup nb nsw).mpr fun ⟨o, r⟩ => (h.inv r o).symm.trans mem_swp.symm
  exact ⟨h.km, (p.map (·.1)).nodup_iff.mp h.kb, fun r o => mem_swp.symm, h.lt, h.ac⟩
theorem lkm_none {k : Str} {m : Mp} {k' : Str} (h : k' ≠ k) : lkm k (lksOf k' m) = [] := by
  unfold lkm lksOf
  rw [List.filter_eq_nil_iff.mpr (fun e he => by
    obtain ⟨x, _, rfl⟩ := List.mem_map.mp he
    simpa using h)]
  rfl
theorem lkm_self {k : Str} {m : Mp} : lkm k (lksOf k m) = m := by
  unfold lkm lksOf
  rw [List.filter_eq_self.mpr (fun e he => by
    obtain ⟨x, _, rfl⟩ := List.mem_map.mp he
    simp), List.map_map]
  exact List.map_id _
theorem lkm_ix {k : Str} : ∀ {ks : List Str} {nx : List Mp} {i : Nat} {m : Mp}, ks.Nodup → ks[i]? = some k → nx[i]? = some m → lkm k (lksAll ks nx) = m
  | [], _, _, _, _, h, _ => by simp at h
  | _ :: _, [], _, _, _, _, h => by simp at h
  | k0 :: ks, m0 :: nx, 0, m, nd, h1, h2 => by
    obtain rfl : k0 = k := by simpa using h1
    obtain rfl : m0 = m := by simpa using h2
    have n := (List.nodup_cons.mp nd).1
    show lkm k0 (lksOf k0 m0 ++ lksAll ks nx) = m0
    rw [lkm_app, lkm_self]
    have : lkm k0 (lksAll ks nx) = [] := by
      unfold lkm
      rw [List.filter_eq_nil_iff.mpr (fun e he => by
        obtain ⟨l, hl, h3⟩ := List.mem_flatten.mp he
        obtain ⟨z, hz, rfl⟩ := List.mem_map.mp hl
        obtain ⟨x, _, rfl⟩ := List.mem_map.mp h3
        have := (List.of_mem_zip hz).1
        simp
        exact fun e => n (e ▸ this))]
      rfl
    rw [this, List.append_nil]
  | k0 :: ks, m0 :: nx, i + 1, m, nd, h1, h2 => by
    have n := List.nodup_cons.mp nd
    have h1 : ks[i]? = some k := h1
    show lkm k (lksOf k0 m0 ++ lksAll ks nx) = m
    rw [lkm_app, lkm_none (fun e : k0 = k => n.1 (by rw [e]; exact List.mem_of_getElem? h1)), List.nil_append]
    exact lkm_ix n.2 h1 h2
/-- what a table's view tells of its links -/
theorem view_ok {B : Tb} (h : TbL B) (nd : B.ks.Nodup) : LksOk B.rows.length B.ks ((lksAll B.ks B.nx).mergeSort lkLe) ∧ RelL B ((lksAll B.ks B.nx).mergeSort lkLe) := by
  have pm : (lksAll B.ks B.nx).Perm ((lksAll B.ks B.nx).mergeSort lkLe) := (List.mergeSort_perm _ _).symm
  have at_ : ∀ k ∈ B.ks, ∃ i m b, AtK B k i m b ∧ LkI B.rows.length m b := fun k hk => by
    obtain ⟨i, hi⟩ := List.mem_iff_getElem?.mp hk
    obtain ⟨m, b, ak, l⟩ := h.at_ hi
    exact ⟨i, m, b, ak, l⟩
  have ok : LksOk B.rows.length B.ks (lksAll B.ks B.nx) := by
    refine ⟨fun e he => ?_, fun k hk => ?_⟩
    · obtain ⟨l, hl, h3⟩ := List.mem_flatten.mp he
      obtain ⟨z, hz, rfl⟩ := List.mem_map.mp hl
      obtain ⟨x, _, rfl⟩ := List.mem_map.mp h3
      exact (List.of_mem_zip hz).1
    · obtain ⟨i, m, b, ak, l⟩ := at_ k hk
      rw [lkm_ix nd ak.k ak.x]
      exact LkI.sw l
  have ok2 := ok.perm pm
  refine ⟨ok2, ok2.k, fun i kind m h1 h2 r o => ?_, ok2.nd⟩
  rw [← pm.mem_iff, ← mem_lkm, lkm_ix nd h1 h2]
theorem mem_cps {n : Nat} {ls : List Lk} {k : Str} {r o : Nat} : ∀ {c : Nat}, (k, r, o) ∈ cps n ls c ↔ ∃ j r' o', j < c ∧ r = r' + n * j ∧ o = o' + n * j ∧ (k, r', o') ∈ ls
  | 0 => ⟨(fun h => nomatch h), fun ⟨_, _, _, h, _⟩ => absurd h (Nat.not_lt_zero _)⟩
  | c + 1 => by
    show (k, r, o) ∈ cps n ls c ++ mv (n * c) ls ↔ _
    rw [List.mem_append, mem_cps, mem_mv]
    refine ⟨fun h => ?_, fun ⟨j, r', o', h, h1, h2, h3⟩ => ?_⟩
    · rcases h with ⟨j, r', o', h, g⟩ | ⟨r', o', g⟩
      · exact ⟨j, r', o', by omega, g⟩
      · exact ⟨c, r', o', by omega, g⟩
    · rcases Nat.lt_succ_iff_lt_or_eq.mp h with h | h
      · exact .inl ⟨j, r', o', h, h1, h2, h3⟩
      · subst h
        exact .inr ⟨r', o', h1, h2, h3⟩
/-- one step is one link -/
theorem RelL.step {B : Tb} {ls : List Lk} (h : RelL B ls) (l : TbL B) {k : Str} {d : Int} {r o : Nat} : stepB B k d r = some o ↔ if 0 < d then (k, r, o) ∈ ls else (k, o, r) ∈ ls := by
  cases hi : ixK B.ks k with
  | none =>
    have hk := ixK_none.mp hi
    rw [stepB_none hk]
    refine ⟨(fun e => nomatch e), fun e => ?_⟩
    split at e
    · exact absurd (h.k _ e) hk
    · exact absurd (h.k _ e) hk
  | some i =>
    obtain ⟨m, b, ak, lI⟩ := l.at_ (ixK_some hi)
    rw [stepB_some hi ak]
    split
    · rw [← h.m i k m ak.k ak.x r o]
      exact ⟨nxt_mem, nxt_of lI.km⟩
    · rw [← h.m i k m ak.k ak.x o r, lI.inv o r]
      exact ⟨nxt_mem, nxt_of lI.kb⟩
/-- the rows of the second one stand in the first one from there on -/
structure Emb (B B2 : Tb) (n : Nat) : Prop where
  ro : ∀ r u, B2.rows[r]? = some u → ∃ u', B.rows[r + n]? = some u' ∧ u'.2 = u.2 ∧ ∀ z, z ∈ u'.1 ↔ z ∈ u.1
  st : ∀ k d r, r < B2.rows.length → stepB B k d (r + n) = (stepB B2 k d r).map (· + n)
theorem Emb.of {B B2 : Tb} {n : Nat} {ls ls2 : List Lk} (h : RelL B ls) (l : TbL B) (h2 : RelL B2 ls2) (l2 : TbL B2)
    (mk : ∀ r u, B2.rows[r]? = some u → ∃ u', B.rows[r + n]? = some u' ∧ u'.2 = u.2 ∧ ∀ z, z ∈ u'.1 ↔ z ∈ u.1)
    (f : ∀ k r o, r < B2.rows.length → ((k, r + n, o) ∈ ls ↔ ∃ o', o = o' + n ∧ (k, r, o') ∈ ls2))
    (b : ∀ k r o, o < B2.rows.length → ((k, r, o + n) ∈ ls ↔ ∃ r', r = r' + n ∧ (k, r', o) ∈ ls2)) : Emb B B2 n := by
  refine ⟨mk, fun k d r hr => Option.ext fun o => ?_⟩
  rw [h.step l, Option.map_eq_some_iff]
  by_cases hd : 0 < d
  · rw [if_pos hd, f k r o hr]
    refine ⟨fun ⟨o', e, h3⟩ => ⟨o', (h2.step l2).mpr (by rw [if_pos hd]; exact h3), e.symm⟩, fun ⟨o', h3, e⟩ => ⟨o', e.symm, ?_⟩⟩
    have := (h2.step l2).mp h3
    rw [if_pos hd] at this
    exact this
  · rw [if_neg hd, b k o r hr]
    refine ⟨fun ⟨o', e, h3⟩ => ⟨o', (h2.step l2).mpr (by rw [if_neg hd]; exact h3), e.symm⟩, fun ⟨o', h3, e⟩ => ⟨o', e.symm, ?_⟩⟩
    have := (h2.step l2).mp h3
    rw [if_neg hd] at this
    exact this
theorem map_inj {n : Nat} {x y : Option Nat} : x.map (· + n) = y.map (· + n) ↔ x = y := by
  refine ⟨fun h => ?_, fun h => by rw [h]⟩
  cases x <;> cases y <;> simp at h ⊢
  exact h
theorem Emb.ev {B B2 : Tb} {n : Nat} (h : Emb B B2 n) (l2 : TbL B2) : ∀ (t : Tr) (r : Nat), r < B2.rows.length → (Tr.ev B t (r + n)).1 = ((Tr.ev B2 t r).1).map (· + n) ∧ (Tr.ev B t (r + n)).2 = (Tr.ev B2 t r).2 := by
  intro t
  induction t with
  | z w => intro r hr; exact ⟨rfl, rfl⟩
  | st k d => intro r hr; exact ⟨h.st k d r hr, rfl⟩
  | mk k =>
    intro r hr
    refine ⟨rfl, ?_⟩
    obtain ⟨u', h1, _, h3⟩ := h.ro r _ (List.getElem?_eq_getElem hr)
    show decide (k ∈ marksB B (r + n)) = decide (k ∈ marksB B2 r)
    unfold marksB
    rw [h1, List.getElem?_eq_getElem hr]
    dsimp only
    rw [decide_eq_decide]
    exact h3 k
  | one w a ih =>
    intro r hr
    obtain ⟨h1, h2⟩ := ih r hr
    unfold Tr.ev
    split
    · refine ⟨rfl, ?_⟩
      dsimp only
      rw [h1, Option.isSome_map]
    · refine ⟨rfl, ?_⟩
      dsimp only
      rw [h2]
  | two w a b iha ihb =>
    intro r hr
    obtain ⟨a1, a2⟩ := iha r hr
    obtain ⟨b1, b2⟩ := ihb r hr
    unfold Tr.ev
    dsimp only
    rw [a1, a2, b1, b2]
    split
    · dsimp only
      split <;> exact ⟨rfl, rfl⟩
    split
    · dsimp only
      refine ⟨?_, rfl⟩
      cases hx : (Tr.ev B2 a r).1 with
      | none => rfl
      | some o => exact (ihb o (Tr.ev_lt l2 a r o hr hx)).1
    split
    · dsimp only
      refine ⟨?_, rfl⟩
      cases hx : (Tr.ev B2 a r).1 with
      | none => rfl
      | some o => rfl
    split
    · dsimp only
      refine ⟨?_, rfl⟩
      by_cases e : (Tr.ev B2 a r).1 = (Tr.ev B2 b r).1
      · rw [if_pos e, if_pos (map_inj.mpr e)]
      · rw [if_neg e, if_neg fun z => e (map_inj.mp z)]
        rfl
    split
    · dsimp only
      refine ⟨rfl, ?_⟩
      rw [Option.isSome_map, show decide (((Tr.ev B2 a r).1).map (· + n) = ((Tr.ev B2 b r).1).map (· + n)) = decide ((Tr.ev B2 a r).1 = (Tr.ev B2 b r).1) from decide_eq_decide.mpr map_inj]
    · exact ⟨rfl, rfl⟩
/-- where each of two tables stands in the joint one -/
theorem Emb.fst {B B1 : Tb} {l1 l2 : List Lk} {w1 w2 : List Rw} (hr : RowsR B.rows (w1 ++ w2)) (h : RelL B (l1 ++ mv w1.length l2)) (l : TbL B) (e1 : B1.rows = w1) (h1 : RelL B1 l1) (t1 : TbL B1) (hl1 : ∀ k r o, (k, r, o) ∈ l1 → r < w1.length ∧ o < w1.length) : Emb B B1 0 := by
  refine Emb.of h l h1 t1 (fun r u hu => ?_) (fun k r o hr' => ?_) fun k r o ho => ?_
  · rw [e1] at hu
    have lt := (List.getElem?_eq_some_iff.mp hu).1
    have hl := hr.1
    rw [List.length_append] at hl
    have h3 := hr.2 r _ u (List.getElem?_eq_getElem (by omega)) (by rw [List.getElem?_append_left lt]; exact hu)
    exact ⟨_, List.getElem?_eq_getElem (by omega), h3⟩
  · rw [e1] at hr'
    rw [List.mem_append, mem_mv]
    refine ⟨fun h => ?_, fun ⟨o', e, h⟩ => .inl (by rw [e]; exact h)⟩
    rcases h with h | ⟨r', o', e, _, _⟩
    · exact ⟨o, rfl, h⟩
    · omega
  · rw [e1] at ho
    rw [List.mem_append, mem_mv]
    refine ⟨fun h => ?_, fun ⟨o', e, h⟩ => .inl (by rw [e]; exact h)⟩
    rcases h with h | ⟨r', o', _, e, _⟩
    · exact ⟨r, rfl, h⟩
    · omega
theorem Emb.snd {B B2 : Tb} {l1 l2 : List Lk} {w1 w2 : List Rw} (hr : RowsR B.rows (w1 ++ w2)) (h : RelL B (l1 ++ mv w1.length l2)) (l : TbL B) (e2 : B2.rows = w2) (h2 : RelL B2 l2) (t2 : TbL B2) (hl1 : ∀ k r o, (k, r, o) ∈ l1 → r < w1.length ∧ o < w1.length) : Emb B B2 w1.length := by
  refine Emb.of h l h2 t2 (fun r u hu => ?_) (fun k r o hr' => ?_) fun k r o ho => ?_
  · rw [e2] at hu
    have lt := (List.getElem?_eq_some_iff.mp hu).1
    have hl := hr.1
    rw [List.length_append] at hl
    have h3 := hr.2 (r + w1.length) _ u (List.getElem?_eq_getElem (by omega)) (by rw [List.getElem?_append_right (by omega), Nat.add_sub_cancel]; exact hu)
    exact ⟨_, List.getElem?_eq_getElem (by omega), h3⟩
  · rw [List.mem_append, mem_mv]
    refine ⟨fun h => ?_, fun ⟨o', e, h⟩ => .inr ⟨r, o', rfl, e, h⟩⟩
    rcases h with h | ⟨r', o', e, e', h⟩
    · have := hl1 _ _ _ h; omega
    · obtain rfl : r = r' := by omega
      exact ⟨o', e', h⟩
  · rw [List.mem_append, mem_mv]
    refine ⟨fun h => ?_, fun ⟨o', e, h⟩ => .inr ⟨o', o, e, rfl, h⟩⟩
    rcases h with h | ⟨r', o', e, e', h⟩
    · have := hl1 _ _ _ h; omega
    · obtain rfl : o = o' := by omega
      exact ⟨r', e, h⟩
def rep {α : Type} (xs : List α) : Nat → List α
  | 0 => []
  | c + 1 => rep xs c ++ xs
theorem rep_len {α : Type} {xs : List α} : ∀ {c : Nat}, (rep xs c).length = xs.length * c
  | 0 => rfl
  | c + 1 => by
    show (rep xs c ++ xs).length = _
    rw [List.length_append, rep_len, Nat.mul_add, Nat.mul_one]
theorem rep_at {α : Type} {xs : List α} {r : Nat} {u : α} (h : xs[r]? = some u) : ∀ {c j : Nat}, j < c → (rep xs c)[r + xs.length * j]? = some u
  | 0, _, h => absurd h (Nat.not_lt_zero _)
  | c + 1, j, hj => by
    show (rep xs c ++ xs)[r + xs.length * j]? = some u
    rcases Nat.lt_succ_iff_lt_or_eq.mp hj with h1 | h1
    · have := rep_at (c := c) h h1
      rw [List.getElem?_append_left (List.getElem?_eq_some_iff.mp this).1]
      exact this
    · subst h1
      rw [List.getElem?_append_right (by rw [rep_len]; omega), rep_len, Nat.add_sub_cancel]
      exact h
theorem mul_ix {n r r' j j' : Nat} (h : r < n) (h' : r' < n) (e : r + n * j = r' + n * j') : r = r' ∧ j = j' := by
  have e1 : (r + n * j) % n = r := by rw [Nat.add_mul_mod_self_left, Nat.mod_eq_of_lt h]
  have e2 : (r' + n * j') % n = r' := by rw [Nat.add_mul_mod_self_left, Nat.mod_eq_of_lt h']
  have e3 : r = r' := by rw [← e1, e, e2]
  subst e3
  exact ⟨rfl, Nat.eq_of_mul_eq_mul_left (by omega : 0 < n) (by omega)⟩
/-- where each copy stands -/
theorem Emb.cp {B B2 : Tb} {ls : List Lk} {w : List Rw} {c j : Nat} (hr : RowsR B.rows (rep w c)) (h : RelL B (cps w.length ls c)) (l : TbL B) (e2 : B2.rows = w) (h2 : RelL B2 ls) (t2 : TbL B2) (hl1 : ∀ k r o, (k, r, o) ∈ ls → r < w.length ∧ o < w.length) (hj : j < c) : Emb B B2 (w.length * j) := by
  refine Emb.of h l h2 t2 (fun r u hu => ?_) (fun k r o hr' => ?_) fun k r o ho => ?_
  · rw [e2] at hu
    have h0 := rep_at hu hj
    have lt := (List.getElem?_eq_some_iff.mp h0).1
    have hl := hr.1
    have h3 := hr.2 _ _ u (List.getElem?_eq_getElem (by omega)) h0
    exact ⟨_, List.getElem?_eq_getElem (by omega), h3⟩
  · rw [e2] at hr'
    rw [mem_cps]
    refine ⟨fun ⟨j', r', o', h3, h4, h5, h6⟩ => ?_, fun ⟨o', e, h⟩ => ⟨j, r, o', hj, rfl, e, h⟩⟩
    obtain ⟨rfl, rfl⟩ := mul_ix hr' (hl1 _ _ _ h6).1 h4
    exact ⟨o', h5, h6⟩
  · rw [e2] at ho
    rw [mem_cps]
    refine ⟨fun ⟨j', r', o', h3, h4, h5, h6⟩ => ?_, fun ⟨o', e, h⟩ => ⟨j, o', o, hj, e, rfl, h⟩⟩
    obtain ⟨rfl, rfl⟩ := mul_ix ho (hl1 _ _ _ h6).2 h5
    exact ⟨r', h4, h6⟩
/-- clocks -/
theorem TmL.join {n : Nat} {l1 l2 : List Lk} (h1 : ∀ k r o, (k, r, o) ∈ l1 → r < n ∧ o < n) : TmL (l1 ++ mv n l2) ↔ TmL l1 ∧ TmL l2 := by
  refine ⟨fun ⟨rk, h⟩ => ⟨⟨rk, fun e he => h e (List.mem_append.mpr (.inl he))⟩, ⟨fun r => rk (r + n), fun e he => h (e.1, e.2.1 + n, e.2.2 + n) (List.mem_append.mpr (.inr (mem_mv.mpr ⟨_, _, rfl, rfl, he⟩)))⟩⟩, fun ⟨⟨ra, ha⟩, ⟨rb, hb⟩⟩ => ⟨fun r => if r < n then ra r else rb (r - n), fun ⟨k, r, o⟩ he => ?_⟩⟩
  show (if r < n then ra r else rb (r - n)) < (if o < n then ra o else rb (o - n))
  rcases List.mem_append.mp he with h | h
  · have l := h1 k r o h
    rw [if_pos l.1, if_pos l.2]
    exact ha _ h
  · obtain ⟨r', o', e1, e2, h5⟩ := mem_mv.mp h
    rw [if_neg (by omega), if_neg (by omega), e1, e2, Nat.add_sub_cancel, Nat.add_sub_cancel]
    exact hb _ h5
theorem TmL.cps {n : Nat} {ls : List Lk} (h1 : ∀ k r o, (k, r, o) ∈ ls → r < n ∧ o < n) {c : Nat} (hc : c ≠ 0) : TmL (cps n ls c) ↔ TmL ls := by
  induction c with
  | zero => exact absurd rfl hc
  | succ c ih =>
    have lt : ∀ k r o, (k, r, o) ∈ K.cps n ls c → r < n * c ∧ o < n * c := fun k r o h => by
      obtain ⟨j, r', o', h2, h3, h4, h5⟩ := mem_cps.mp h
      have := h1 _ _ _ h5
      have h6 : n * j + n ≤ n * c := by rw [← Nat.mul_succ]; exact Nat.mul_le_mul_left n h2
      omega
    show TmL (K.cps n ls c ++ mv (n * c) ls) ↔ _
    rw [TmL.join lt]
    by_cases h0 : c = 0
    · subst h0
      exact ⟨fun h => h.2, fun h => ⟨⟨fun _ => 0, (fun _ h => nomatch h)⟩, h⟩⟩
    · rw [ih h0]
      exact ⟨fun h => h.2, fun h => ⟨h, h⟩⟩
/-- Table(..) with all that it needs, and no more -/
theorem mkT0 {Γ : Gm} {C x dx p r l : Addr} {c b1 b2 : Bool} {ks : List Str} {rts : List Addr} {rws : List Rw} {lts : List Addr} {ls : List Lk} {H : Hp} {Q : VK} {E : XK} (hx : H x = none) (hdx : H dx = none) (ne : dx ≠ x)
    (hp : SqB Γ.K H p (ks.map V.str) c) (nk : ∀ z ∈ ks, Nm z) (ndk : ks.Nodup) (lk : ks.length ≤ 20) (e1 : b1 = true → ∃ o, H r = some o) (e2 : b2 = true → ∃ o, H l = some o) (hr : SqB Γ.K H r (rts.map V.ref) b1) (hrw : RwP Γ.K H rts rws) (nrw : ∀ u ∈ rws, (∀ z ∈ u.1, Nm z) ∧ u.1.length < 60) (lrw : rws.length < 1000)
    (hl : SqB Γ.K H l (lts.map V.ref) b2) (hlk : LnkP Γ.K H lts ls) (lok : LksOk rws.length ks ls) (lls : ls.length < 1000)
    (k : ∀ (A : TAd) (B : Tb) H', A.a = x → Same H H' → (∀ a ∈ A.fp, H a = none) → TbP Γ.K C A B H' → RowsR B.rows rws → B.nx = B.ks.map (fun k => lkm k ls) → B.bf = B.ks.map (fun k => swp (lkm k ls)) → (∀ z, z ∈ B.ks ↔ z ∈ ks) → Q .non H') :
    spTInitF Γ.K C [.ref x, .ref p, .ref r, .ref l] (upd (upd H dx (.own x)) x (.ins C dx [])) Q E := by
  have hx2 : upd H dx (.own x) x = none := by rw [upd_ne (Ne.symm ne)]; exact hx
  have sm : Same H (upd (upd H dx (.own x)) x (.ins C dx [])) := (Same.mk hdx).trans (Same.mk hx2)
  have n0 : ∀ {a : Addr}, (∃ o, H a = some o) → a ≠ x := fun ⟨o, h⟩ z => by rw [z, hx] at h; cases h
  have sq : ∀ {t : Addr} {xs : List V}, SqT Γ.K H t xs → SqT Γ.K (upd (upd H dx (.own x)) x (.ins C dx [])) t xs := fun h => (Fr.of (S := []) sm).sqt h List.not_mem_nil
  refine ⟨x, dx, p, r, l, c, b1, b2, ks, rts, rws, lts, ls, rfl, upd_same, hp.same sm, nk, ndk, lk, fun h => n0 (e1 h), fun h => n0 (e2 h), hr.same sm, ⟨hrw.len, fun i t r a b => ?_⟩, nrw, lrw, hl.same sm, ⟨hlk.len, fun i t e a b => sq (hlk.at_ i t e a b)⟩, lok, lls, fun A B H' ea f new t r1 x1 b1 m => k A B H' ea (fun a o e => f a o (fun z => n0 ⟨o, e⟩ (List.mem_singleton.mp z)) (sm a o e)) (fun a ha => ?_) t r1 x1 b1 m⟩
  · obtain ⟨m, h1, h2⟩ := hrw.at_ i t r a b
    exact ⟨m, sq h1, sq h2⟩
  · cases e : H a with
    | none => rfl
    | some o =>
      have h1 := new a ha
      rw [sm a o e] at h1
      cases h1
theorem lnk_zs {K : PySem.W.Frag} {H : Hp} {zs : List (Addr × Lk)} (h : ∀ z ∈ zs, SqT K H z.1 (lkI z.2)) : LnkP K H (zs.map (·.1)) (zs.map (·.2)) := by
  refine ⟨by rw [List.length_map, List.length_map], fun i t e a b => ?_⟩
  rw [List.getElem?_map] at a b
  obtain ⟨z, hz, rfl⟩ := Option.map_eq_some_iff.mp a
  rw [hz] at b
  cases b
  exact h z (List.mem_of_getElem? hz)
theorem LnkP.same {K : PySem.W.Frag} {H H' : Hp} {ts : List Addr} {ls : List Lk} (h : LnkP K H ts ls) (s : Same H H') : LnkP K H' ts ls := ⟨h.len, fun i t e a b => (Fr.of (S := []) s).sqt (h.at_ i t e a b) List.not_mem_nil⟩
theorem RwP.same {K : PySem.W.Frag} {H H' : Hp} {ts : List Addr} {rs : List Rw} (h : RwP K H ts rs) (s : Same H H') : RwP K H' ts rs := ⟨h.len, fun i t r a b => by
  obtain ⟨m, h1, h2⟩ := h.at_ i t r a b
  exact ⟨m, (Fr.of (S := []) s).sqt h1 List.not_mem_nil, (Fr.of (S := []) s).sqt h2 List.not_mem_nil⟩⟩
theorem RwP.app {K : PySem.W.Frag} {H : Hp} {ts ts2 : List Addr} {rs rs2 : List Rw} (h : RwP K H ts rs) (k : RwP K H ts2 rs2) : RwP K H (ts ++ ts2) (rs ++ rs2) := by
  have e := h.len
  refine ⟨by rw [List.length_append, List.length_append, h.len, k.len], fun i t r a b => ?_⟩
  by_cases hi : i < ts.length
  · rw [List.getElem?_append_left hi] at a
    rw [List.getElem?_append_left (by omega)] at b
    exact h.at_ i t r a b
  · rw [List.getElem?_append_right (by omega)] at a
    rw [List.getElem?_append_right (by omega)] at b
    rw [e] at a
    exact k.at_ _ t r a b
def spBeside (K : PySem.W.Frag) (C : Addr) : Sp := fun vs H Q _ => ∃ (A1 A2 : TAd) (B1 B2 : Tb), vs = [.ref A1.a, .ref A2.a] ∧ TbP K C A1 B1 H ∧ TbP K C A2 B2 H ∧ TbL B1 ∧ TbL B2 ∧ B1.ks = B2.ks ∧ (∀ k ∈ B1.ks, Nm k) ∧ B1.ks.length ≤ 20 ∧ B1.rows.length < 400 ∧ B2.rows.length < 400 ∧ (∀ u ∈ B1.rows ++ B2.rows, (∀ z ∈ u.1, Nm z) ∧ u.1.length < 60) ∧ (lksAll B1.ks B1.nx).length < 400 ∧ (lksAll B2.ks B2.nx).length < 400 ∧
  ∀ (A : TAd) (B : Tb) (l1 l2 : List Lk) H', Same H H' → (∀ a ∈ A.fp, H a = none) → TbP K C A B H' → RowsR B.rows (B1.rows ++ B2.rows) → RelL B1 l1 → RelL B2 l2 → LksOk B1.rows.length B1.ks l1 → LksOk B2.rows.length B1.ks l2 → RelL B (l1 ++ mv B1.rows.length l2) → TbL B → B.ks = B1.ks → Q (.ref A.a) H'

def spCopies (K : PySem.W.Frag) (C : Addr) : Sp := fun vs H Q _ => ∃ (A1 : TAd) (B1 : Tb) (c : Nat), vs = [.ref A1.a, .int c] ∧ TbP K C A1 B1 H ∧ TbL B1 ∧ (∀ k ∈ B1.ks, Nm k) ∧ B1.ks.length ≤ 20 ∧ B1.rows.length < 100 ∧ c ≤ 5 ∧ (∀ u ∈ B1.rows, (∀ z ∈ u.1, Nm z) ∧ u.1.length < 60) ∧ (lksAll B1.ks B1.nx).length < 100 ∧
  ∀ (A : TAd) (B : Tb) (l1 : List Lk) H', Same H H' → (∀ a ∈ A.fp, H a = none) → TbP K C A B H' → RowsR B.rows (rep B1.rows c) → RelL B1 l1 → LksOk B1.rows.length B1.ks l1 → RelL B (cps B1.rows.length l1 c) → TbL B → B.ks = B1.ks → Q (.ref A.a) H'
theorem rep_fl {α : Type} {xs : List α} : ∀ {n : Nat}, (List.replicate n xs).flatten = rep xs n
  | 0 => rfl
  | n + 1 => by
    rw [List.replicate_succ', List.flatten_append, rep_fl]
    show _ ++ (xs ++ []) = rep xs n ++ xs
    rw [List.append_nil]
theorem rep_map {α β : Type} {f : α → β} {xs : List α} : ∀ {n : Nat}, rep (xs.map f) n = (rep xs n).map f
  | 0 => rfl
  | n + 1 => by
    show rep (xs.map f) n ++ xs.map f = (rep xs n ++ xs).map f
    rw [rep_map, List.map_append]
theorem rep_mem {α : Type} {xs : List α} {u : α} : ∀ {n : Nat}, u ∈ rep xs n → u ∈ xs
  | 0, h => nomatch h
  | n + 1, h => (List.mem_append.mp h).elim rep_mem id
theorem RwP.rep {Fg : PySem.W.Frag} {H : Hp} {ts : List Addr} {rs : List Rw} (h : RwP Fg H ts rs) : ∀ c, RwP Fg H (K.rep ts c) (K.rep rs c)
  | 0 => ⟨rfl, fun i t r a => by cases a⟩
  | c + 1 => RwP.app (RwP.rep h c) h
theorem cps_len {n : Nat} {ls : List Lk} : ∀ {c : Nat}, (cps n ls c).length = ls.length * c
  | 0 => rfl
  | c + 1 => by
    show (cps n ls c ++ mv (n * c) ls).length = _
    rw [List.length_append, cps_len, Nat.mul_add, Nat.mul_one]
    unfold mv
    rw [List.length_map]
abbrev s_beside : Stmt := topS 18
abbrev n_beside : List Str := ["one", "two", "kinds", "rows", "links", "there", "size", "moved", "kind", "row", "other"]
theorem sc_beside : FnScope n_beside ["one", "two"] (defScope s_beside) := ⟨rfl, rfl, rfl, by decide +kernel, rfl, by decide +kernel, by decide +kernel⟩
theorem nm_beside : nvB n_beside (defScope s_beside) 0 "one" = true ∧ nvB n_beside (defScope s_beside) 1 "two" = true ∧ nvB n_beside (defScope s_beside) 2 "kinds" = true ∧ nvB n_beside (defScope s_beside) 3 "rows" = true ∧ nvB n_beside (defScope s_beside) 4 "links" = true ∧ nvB n_beside (defScope s_beside) 5 "there" = true ∧ nvB n_beside (defScope s_beside) 7 "moved" = true ∧ lvB n_beside (defScope s_beside) 2 "kinds" = true ∧ lvB n_beside (defScope s_beside) 3 "rows" = true ∧ lvB n_beside (defScope s_beside) 4 "links" = true ∧ lvB n_beside (defScope s_beside) 5 "there" = true ∧ lvB n_beside (defScope s_beside) 6 "size" = true ∧ gvB (defScope s_beside) "Table" = true ∧ gvB (defScope s_beside) "len" = true ∧ gvB (defScope s_beside) "tuple" = true := by decide +kernel
theorem cl_beside {Γ : Gm} (dfn : Dfn Γ "beside" s_beside ["one", "two"]) (T : Names Γ) {C : Addr} (L : KT Γ C) (k_Table : Mkr Γ CX0 11 "Table" C (spTInitF Γ.K C) []) (p_kinds : Pr Γ CX0 1 C "kinds" (spTKinds Γ.K C)) (m_view : Mt Γ CX0 1 C "view" (spView Γ.K C) []) : Cl Γ CX0 (13) "beside" (spBeside Γ.K C) [] := by
  refine dfn.cl sc_beside (fun vs H Q E h => ?_) (fun f cdv A outer s H vs Q E hg h => ?_)
  · obtain ⟨A1, A2, B1, B2, rfl, _⟩ := h
    rfl
  obtain ⟨A1, A2, B1, B2, rfl, t1, t2, L1, L2, ek, nk, lk, r1, r2, hu, n1, n2, q⟩ := h
  have nd := sc_beside.nd
  obtain ⟨v0, v1, v2, v3, v4, v5, v7, l2, l3, l4, l5, l6, g_Table, g_len, g_tuple⟩ := nm_beside
  refine ⟨_, (pss_cons (ps_ifB (pt_cm (k_ne hg) (pe_at (WA.ok hg) (ps 0 v0)) (pe_at (WA.ok hg) (ps 1 v1)) (nomark _))
    (pss_one ps_never)
    pss_nil)
    (pss_cons (ps_asg (pe_mw0 hg (ps 0 v0)) (pg_tK hg 3 rfl (pgs_c (pgn (i := 2) nd l2) (pgs_c (pgn (i := 3) nd l3) (pgs_c (pgn (i := 4) nd l4) pgs_0)))))
    (pss_cons (pst (i := 5) nd l5 (pe_mw0 hg (ps 1 v1)))
    (pss_cons (pst (i := 6) nd l6 (pcb (k_len hg) g_len T.n_len bt_len (pa_cons (ps 3 v3) pa_nil)))
    (pss_cons (ps_setLc (i := 7) (own := [("kind", 8), ("row", 9), ("other", 10)]) rfl nd rfl rfl (sw_true rfl rfl rfl (by decide +kernel)) (pi_t hg (pe_ix (WX.ok hg) (ps 5 v5) pe_int (fun _ _ => rfl))) (blkOk_by (N := n_beside) (sc := defScope s_beside) (by decide +kernel)) (fun _ _ _ _ _ => (pg_tK hg.blk 3 rfl (pgs_c (pg_name (i := 8) nd rfl (by first | exact .inl rfl | exact .inr rfl)) (pgs_c (pg_name (i := 9) nd rfl (by first | exact .inl rfl | exact .inr rfl)) (pgs_c (pg_name (i := 10) nd rfl (by first | exact .inl rfl | exact .inr rfl)) pgs_0))))) (fun _ _ _ _ _ => pts_nil) (fun _ _ _ _ _ => (pe_tup (pa_cons (psr 8) (pa_cons (pe_op (k_add hg.blk) (psr 9) (psr 6)) (pa_cons (pe_op (k_add hg.blk) (psr 10) (psr 6)) pa_nil))))))
    (pss_one (ps_ret (pmk k_Table hg (by omega) g_Table pass0 (pa_cons (ps 2 v2) (pa_cons (pe_op (k_add hg) (ps 3 v3) (pe_ix (WX.ok hg) (ps 5 v5) pe_int (fun _ _ => rfl))) (pa_cons (pe_op (k_add hg) (ps 4 v4) (pct (WC.ok hg) g_tuple T.n_tuple bt_tuple (pa_cons (ps 7 v7) pa_nil))) pa_nil))))))))))), ?_⟩
  refine st_start (σ := [some _, some _, none, none, none, none, none, none, none, none, none]) rfl ?_
  walk_at "dn"
  have ok1 : ∀ k ∈ B1.ks, PyData.strOk k = true := fun k h => (nk k h).ok
  refine wa_prop p_kinds (E := E0) (by omega) t1.ins ⟨A1, B1, rfl, t1, ?_⟩
  refine wa_prop p_kinds (E := E0) (by omega) t2.ins ⟨A2, B2, rfl, t2, ?_⟩
  refine wo_neST t1.so t2.so ok1 (by rw [← ek]; exact ok1) ?_
  rw [ek, decide_eq_true rfl]
  walk_at "di"
  refine ⟨1, C, A1.a, A1.dx, A1.fs, spView Γ.K C, [], E0, ⟨m_view.ex⟩, by omega, rfl, t1.ins, by rfl, A1, B1, rfl, t1, by omega, by omega, fun p pr pl rts zs H1 s1 hp hpr hrw hpl hzs ez => ?_⟩
  refine gt_of hp rfl ?_
  walk_at "dn"
  refine ⟨1, C, A2.a, A2.dx, A2.fs, spView Γ.K C, [], E0, ⟨m_view.ex⟩, by omega, rfl, (t2.same s1).ins, by rfl, A2, B2, rfl, t2.same s1, by omega, by omega, fun p' pr' pl' rts' zs' H2 s2 hp' hpr' hrw' hpl' hzs' ez' => ?_⟩
  have hpr2 : SqT Γ.K H2 pr (rts.map V.ref) := (Fr.of (S := []) s2).sqt hpr List.not_mem_nil
  have hpl2 := (Fr.of (S := []) s2).sqt hpl List.not_mem_nil
  refine wc_len_t hpr2 ?_
  have hrl : rts.length = B1.rows.length := hrw.len
  rw [List.length_map, hrl]
  walk_at "di"
  refine wx_t hp' (v := .ref pl') (atG (j := 2) rfl rfl) ?_
  refine ⟨pl', rfl, ⟨_, hpl'⟩, fun D hD => ?_⟩
  have lz' : (zs'.map (·.2)).length = (lksAll B2.ks B2.nx).length := by rw [ez']; exact List.length_mergeSort _
  have lz : (zs.map (·.2)).length = (lksAll B1.ks B1.nx).length := by rw [ez]; exact List.length_mergeSort _
  rw [List.length_map] at lz lz'
  refine lq_it (walk_tup (xs := zs'.map fun z => V.ref z.1)) (fun i acc H3 => ∃ ts2 : List Addr, acc = ts2.map V.ref ∧ SS (E1 Γ) H2 [] H3 [lksF ts2 (mv B1.rows.length ((zs'.map (·.2)).take i))] [lstR D acc])
    ⟨[], rfl, (SS.start0.newC (o := .lst []) hD (fun z => z)).add (lksF [] []) ⟨rfl, fun i t e a => by simp at a⟩⟩ (fun _ _ _ _ ⟨_, _, s⟩ => s.fr.sqt hpl' List.not_mem_nil) ?_ ?_
  · rintro i x acc H3 H4 hi hl2 ⟨ts2, rfl, s⟩ ⟨rfl, hx2⟩
    have hx3 : (zs'.map fun z => V.ref z.1)[i]? = some x := hx2
    rw [List.getElem?_map] at hx3
    obtain ⟨z, hz, rfl⟩ := Option.map_eq_some_iff.mp hx3
    rw [List.length_map] at hi
    have hsq : SqT Γ.K H4 z.1 (lkI z.2) := s.fr.sqt (hzs' z (List.mem_of_getElem? hz)) List.not_mem_nil
    refine gt_of hsq rfl ?_
    walk_at "di"
    refine ⟨rfl, szl (by simp only [List.length_cons, List.length_nil]; omega), fun T hT => ?_⟩
    have s4 := s.newT (xs := lkI (z.2.1, z.2.2.1 + B1.rows.length, z.2.2.2 + B1.rows.length)) hT
    refine lq_add s4 hl2 (lt_size (by omega)) ⟨_, lq_len hl2, ts2 ++ [T], by rw [List.map_append]; rfl, ?_⟩
    have et : mv B1.rows.length ((zs'.map (·.2)).take (i + 1)) = mv B1.rows.length ((zs'.map (·.2)).take i) ++ [(z.2.1, z.2.2.1 + B1.rows.length, z.2.2.2 + B1.rows.length)] := by
      rw [List.take_add_one, List.getElem?_map, hz]
      unfold mv
      rw [List.map_append]
      rfl
    rw [et]
    have s7 := s4.app (y := .ref T)
    exact (s7.add (lksF (ts2 ++ [T]) _) (lksF_app (s7.f (lksF ts2 _) (.tail _ (.head _))) (s7.tup (.head _)))).sub fun w hw => by
      rw [List.mem_singleton.mp hw]; exact .head _
  rintro acc H3 hl2 ⟨ts2, rfl, s⟩
  rw [List.length_map, lz', List.take_of_length_le (by rw [List.length_map, lz']; omega)] at s
  have s3 := s.fr.same
  have hlk3 : LnkP Γ.K H3 ts2 _ := s.f (lksF ts2 _) (.head _)
  have cD := s.cell (p := D) (b := false) (.head _)
  have q3 : ∀ {t : Addr} {xs : List V}, SqT Γ.K H2 t xs → SqT Γ.K H3 t xs := fun h => (Fr.of (S := []) s3).sqt h List.not_mem_nil
  refine wx_t (q3 hp') (v := .ref pr') (atG (j := 1) rfl rfl) ?_
  refine wo_catT (q3 hpr2) (q3 hpr') (szl (by simp only [List.length_map]; have := hrw'.len; omega)) fun pc H4 s4 hpc => ?_
  refine wc_tup (SqL.of (s4 _ _ cD)) fun pm hpm => ?_
  have hpm2 : SqT Γ.K (upd H4 pm (.tup (ts2.map V.ref))) pm (ts2.map V.ref) := SqT.of upd_same
  have s5 : Same H4 (upd H4 pm (.tup (ts2.map V.ref))) := Same.mk hpm
  have s45 := s4.trans s5
  have q5 : ∀ {t : Addr} {xs : List V}, SqT Γ.K H3 t xs → SqT Γ.K (upd H4 pm (.tup (ts2.map V.ref))) t xs := fun h => (Fr.of (S := []) s45).sqt h List.not_mem_nil
  have lmv : (mv B1.rows.length (zs'.map (·.2))).length = zs'.length := by unfold mv; rw [List.length_map, List.length_map]
  have lts2 : ts2.length = zs'.length := by rw [hlk3.len, lmv]
  refine wo_catT (q5 (q3 hpl2)) hpm2 (szl (by simp only [List.length_map]; omega)) fun pl6 H6 s6 hpl6 => fun x dx hx hdx ne => ?_
  have s16 : Same H H6 := s1.trans (s2.trans (s3.trans (s45.trans s6)))
  have s26 : Same H2 H6 := s3.trans (s45.trans s6)
  have s36 : Same H3 H6 := s45.trans s6
  have s46 : Same H4 H6 := s5.trans s6
  obtain ⟨v1, v2⟩ := view_ok L1 t1.ka.nd
  obtain ⟨v3, v4⟩ := view_ok L2 t2.ka.nd
  have hln : LnkP Γ.K H6 (zs.map (·.1) ++ ts2) (zs.map (·.2) ++ mv B1.rows.length (zs'.map (·.2))) := lks_app ((lnk_zs hzs).same (s2.trans s26)) (hlk3.same s36)
  rw [← ez] at v1 v2
  rw [← ez'] at v3 v4
  rw [← ek] at v3
  have vj := LksOk.join v1 v3
  refine mkT0 (c := false) (b1 := false) (b2 := false) (ks := B1.ks) (rts := rts ++ rts') (rws := B1.rows ++ B2.rows) (lts := zs.map (·.1) ++ ts2) (ls := zs.map (·.2) ++ mv B1.rows.length (zs'.map (·.2))) hx hdx ne (t1.same s16).so nk t1.ka.nd lk (fun h => by cases h) (fun h => by cases h) (by rw [List.map_append]; exact (Fr.of (S := []) s46).sqt hpc List.not_mem_nil) ((hrw.same (s2.trans s26)).app (hrw'.same s26)) hu (by rw [List.length_append]; omega) (by rw [List.map_append, List.map_map]; exact hpl6) hln (by rw [List.length_append]; exact vj) (by rw [List.length_append, lmv, List.length_map]; omega) fun A B H7 ea s7 new t7 rr rx rb rm => ⟨rfl, ?_⟩
  subst ea
  have eB : B.ks = B1.ks := t7.ka.eq t1.ka rm
  have lB : B.rows.length = B1.rows.length + B2.rows.length := by rw [rr.1, List.length_append]
  refine q A B _ _ H7 (s16.trans s7) (fun a ha => ?_) t7 rr v2 v4 v1 v3 (RelL.of vj rx rm) (TbL.of (by rw [lB]; exact vj) rx rb rm) eB
  cases e : H a with
  | none => rfl
  | some o =>
    have h1 := new a ha
    rw [s16 a o e] at h1
    cases h1
abbrev s_copies : Stmt := topS 19
abbrev n_copies : List Str := ["table", "count", "kinds", "rows", "links", "size", "moved", "nth", "kind", "row", "other"]
theorem sc_copies : FnScope n_copies ["table", "count"] (defScope s_copies) := ⟨rfl, rfl, rfl, by decide +kernel, rfl, by decide +kernel, by decide +kernel⟩
theorem nm_copies : nvB n_copies (defScope s_copies) 0 "table" = true ∧ nvB n_copies (defScope s_copies) 1 "count" = true ∧ nvB n_copies (defScope s_copies) 2 "kinds" = true ∧ nvB n_copies (defScope s_copies) 3 "rows" = true ∧ nvB n_copies (defScope s_copies) 6 "moved" = true ∧ lvB n_copies (defScope s_copies) 2 "kinds" = true ∧ lvB n_copies (defScope s_copies) 3 "rows" = true ∧ lvB n_copies (defScope s_copies) 4 "links" = true ∧ lvB n_copies (defScope s_copies) 5 "size" = true ∧ gvB (defScope s_copies) "Table" = true ∧ gvB (defScope s_copies) "len" = true ∧ gvB (defScope s_copies) "range" = true := by decide +kernel
theorem cl_copies {Γ : Gm} (dfn : Dfn Γ "copies" s_copies ["table", "count"]) (T : Names Γ) {C : Addr} (L : KT Γ C) (k_Table : Mkr Γ CX0 11 "Table" C (spTInitF Γ.K C) []) (m_view : Mt Γ CX0 1 C "view" (spView Γ.K C) []) : Cl Γ CX0 (13) "copies" (spCopies Γ.K C) [] := by
  refine dfn.cl sc_copies (fun vs H Q E h => ?_) (fun f cdv A outer s H vs Q E hg h => ?_)
  · obtain ⟨A1, B1, c, rfl, _⟩ := h
    rfl
  obtain ⟨A1, B1, c, rfl, t1, L1, nk, lk, r1, hc, hu, n1, q⟩ := h
  have nd := sc_copies.nd
  obtain ⟨v0, v1, v2, v3, v6, l2, l3, l4, l5, g_Table, g_len, g_range⟩ := nm_copies
  refine ⟨_, (pss_cons (ps_asg (pe_mw0 hg (ps 0 v0)) (pg_tK hg 3 rfl (pgs_c (pgn (i := 2) nd l2) (pgs_c (pgn (i := 3) nd l3) (pgs_c (pgn (i := 4) nd l4) pgs_0)))))
    (pss_cons (pst (i := 5) nd l5 (pcb (k_len hg) g_len T.n_len bt_len (pa_cons (ps 3 v3) pa_nil)))
    (pss_cons (ps_setLc2 (i := 6) (own := [("nth", 7), ("kind", 8), ("row", 9), ("other", 10)]) (vs1 := [8, 9, 10]) rfl nd rfl rfl (sw_true rfl rfl rfl (by decide +kernel)) (pi_r1 g_range T.n_range (pa_cons (ps 1 v1) pa_nil)) (blkOk_by (N := n_copies) (sc := defScope s_copies) (by decide +kernel)) (by decide) (fun _ _ _ _ _ => (pg_name (i := 7) nd rfl (by first | exact .inl rfl | exact .inr rfl))) (fun _ _ _ _ _ => pts_nil) (fun _ _ _ _ _ => (pi_t hg.blk (psr 4))) (fun _ _ _ _ _ => (pg_tK hg.blk 3 rfl (pgs_c (pg_name (i := 8) nd rfl (by first | exact .inl rfl | exact .inr rfl)) (pgs_c (pg_name (i := 9) nd rfl (by first | exact .inl rfl | exact .inr rfl)) (pgs_c (pg_name (i := 10) nd rfl (by first | exact .inl rfl | exact .inr rfl)) pgs_0))))) (fun _ _ _ _ _ => pts_nil) (fun _ _ _ _ _ => (pe_tup (pa_cons (psr 8) (pa_cons (pe_op (k_add hg.blk) (psr 9) (pe_op (k_mul hg.blk) (psr 5) (psr 7))) (pa_cons (pe_op (k_add hg.blk) (psr 10) (pe_op (k_mul hg.blk) (psr 5) (psr 7))) pa_nil))))))
    (pss_one (ps_ret (pmk k_Table hg (by omega) g_Table pass0 (pa_cons (ps 2 v2) (pa_cons (pe_op (k_mul hg) (ps 3 v3) (ps 1 v1)) (pa_cons (ps 6 v6) pa_nil))))))))), ?_⟩
  refine st_start (σ := [some _, some _, none, none, none, none, none, none, none, none, none]) rfl ?_
  walk_at "dn"
  refine ⟨1, C, A1.a, A1.dx, A1.fs, spView Γ.K C, [], E0, ⟨m_view.ex⟩, by omega, rfl, t1.ins, by rfl, A1, B1, rfl, t1, by omega, by omega, fun p pr pl rts zs H1 s1 hp hpr hrw hpl hzs ez => ?_⟩
  refine gt_of hp rfl ?_
  walk_at "dn"
  refine wc_len_t hpr ?_
  have hrl : rts.length = B1.rows.length := hrw.len
  rw [List.length_map, hrl]
  have lz : (zs.map (·.2)).length = (lksAll B1.ks B1.nx).length := by rw [ez]; exact List.length_mergeSort _
  rw [List.length_map] at lz
  walk_at "di"
  rw [tLc2_eq]
  refine ⟨c, rfl, by omega, by omega, fun D hD => ?_⟩
  refine lq2_it walk_range (fun i H' => ∃ ts2 : List Addr, SS (E1 Γ) H1 [] H' [lksF ts2 (cps B1.rows.length (zs.map (·.2)) i)] [lstR D (ts2.map V.ref)])
    ⟨[], (SS.start0.newC (o := .lst []) hD (fun z => z)).add (lksF [] []) ⟨rfl, fun i t e a => by simp at a⟩⟩ (fun _ _ _ _ => trivial) ?_ ?_
  · rintro i x H2 H3 hi ⟨ts2, s⟩ ⟨rfl, rfl⟩
    walk_at "dn"
    refine ⟨rfl, pl, rfl, ⟨_, s.fr.sqt hpl List.not_mem_nil⟩, ?_⟩
    rw [Int.zero_add]
    simp only [wipe, List.map_cons, List.map_nil, List.foldl_cons, List.foldl_nil, List.set_cons_succ, List.set_cons_zero]
    refine li_it (walk_tup (xs := zs.map fun z => V.ref z.1)) (fun j H' => ∃ ts2 : List Addr, SS (E1 Γ) H1 [] H' [lksF ts2 (cps B1.rows.length (zs.map (·.2)) i ++ mv (B1.rows.length * i) ((zs.map (·.2)).take j))] [lstR D (ts2.map V.ref)])
      ⟨ts2, by rw [List.take_zero, show mv (B1.rows.length * i) [] = [] from rfl, List.append_nil]; exact s⟩ (fun _ _ _ ⟨_, s⟩ => s.fr.sqt hpl List.not_mem_nil) ?_ ?_
    · rintro j x H4 H5 hj ⟨ts3, s3⟩ ⟨rfl, hx2⟩
      have hx3 : (zs.map fun z => V.ref z.1)[j]? = some x := hx2
      rw [List.getElem?_map] at hx3
      obtain ⟨z, hz, rfl⟩ := Option.map_eq_some_iff.mp hx3
      rw [List.length_map] at hj
      have hsq : SqT Γ.K H5 z.1 (lkI z.2) := s3.fr.sqt (hzs z (List.mem_of_getElem? hz)) List.not_mem_nil
      refine gt_of hsq rfl ?_
      walk_at "dn"
      refine ⟨rfl, ?_⟩
      walk_at "di"
      have cm : L2.CMul (B1.rows.length : Nat) (i : Nat) := .inl ⟨by omega, by omega⟩
      refine ⟨cm, cm, szl (by simp only [List.length_cons, List.length_nil]; omega), fun T hT => ?_⟩
      have s4 := s3.newT (xs := lkI (z.2.1, z.2.2.1 + B1.rows.length * i, z.2.2.2 + B1.rows.length * i)) hT
      have lt : ts3.length < 1000 := by
        have h1 := (s3.f (lksF ts3 _) (.head _) : LnkP Γ.K H5 ts3 _).len
        rw [h1, List.length_append, cps_len, List.length_map, lz]
        unfold mv
        rw [List.length_map, List.length_take, List.length_map]
        have h2 : (lksAll B1.ks B1.nx).length * i ≤ 100 * 5 := Nat.mul_le_mul (by omega) (by omega)
        omega
      refine ⟨_, s4.cell (.head _), lt_size (by rw [List.length_map]; omega), ts3 ++ [T], ?_⟩
      have et : mv (B1.rows.length * i) ((zs.map (·.2)).take (j + 1)) = mv (B1.rows.length * i) ((zs.map (·.2)).take j) ++ [(z.2.1, z.2.2.1 + B1.rows.length * i, z.2.2.2 + B1.rows.length * i)] := by
        rw [List.take_add_one, List.getElem?_map, hz]
        unfold mv
        rw [List.map_append]
        rfl
      rw [et, ← List.append_assoc, List.map_append]
      have s7 := s4.app (y := .ref T)
      exact (s7.add (lksF (ts3 ++ [T]) _) (lksF_app (s7.f (lksF ts3 _) (.tail _ (.head _))) (s7.tup (.head _)))).sub fun w hw => by
        rw [List.mem_singleton.mp hw]; exact .head _
    · rintro H4 ⟨ts3, s3⟩
      refine ⟨ts3, ?_⟩
      rw [List.length_map, List.take_of_length_le (by rw [List.length_map]; exact Nat.le_refl _)] at s3
      exact s3
  rintro H2 ⟨ts2, s⟩
  have s2 := s.fr.same
  have hlk2 : LnkP Γ.K H2 ts2 _ := s.f (lksF ts2 _) (.head _)
  have cD := s.cell (p := D) (b := false) (.head _)
  refine wo_repA ((Fr.of (S := []) s2).sqt hpr List.not_mem_nil) (by omega) (by rw [List.length_map]; omega) fun pc H3 s3 hpc => fun x dx hx hdx ne => ?_
  rw [rep_fl, rep_map] at hpc
  obtain ⟨v1, v2⟩ := view_ok L1 t1.ka.nd
  rw [← ez] at v1 v2
  have s13 : Same H1 H3 := s2.trans s3
  have s03 : Same H H3 := s1.trans s13
  have vj := LksOk.cps v1 c
  have lr : (rep B1.rows c).length = B1.rows.length * c := rep_len
  have h1 : B1.rows.length * c ≤ 100 * 5 := Nat.mul_le_mul (by omega) (by omega)
  have h2 : (zs.map (·.2)).length * c ≤ 100 * 5 := Nat.mul_le_mul (by rw [List.length_map]; omega) (by omega)
  refine mkT0 (c := false) (b1 := false) (b2 := true) (ks := B1.ks) (rts := rep rts c) (rws := rep B1.rows c) (lts := ts2) (ls := cps B1.rows.length (zs.map (·.2)) c) hx hdx ne (t1.same s03).so nk t1.ka.nd lk (fun h => by cases h) (fun _ => ⟨_, s3 _ _ cD⟩) hpc (RwP.rep (hrw.same s13) c) (fun u hu' => hu u (rep_mem hu')) (by rw [lr]; omega) (SqL.of (s3 _ _ cD)) (hlk2.same s3) (by rw [lr]; exact vj) (by rw [cps_len]; omega) fun A B H7 ea s7 new t7 rr rx rb rm => ⟨rfl, ?_⟩
  subst ea
  have eB : B.ks = B1.ks := t7.ka.eq t1.ka rm
  have lB : B.rows.length = B1.rows.length * c := by rw [rr.1, lr]
  refine q A B _ H7 (s03.trans s7) (fun a ha => ?_) t7 rr v2 v1 (RelL.of vj rx rm) (TbL.of (by rw [lB]; exact vj) rx rb rm) eB
  cases e : H a with
  | none => rfl
  | some o =>
    have h1 := new a ha
    rw [s03 a o e] at h1
    cases h1
/-- a view: kinds, rows, links -/
structure VwP (K : PySem.W.Frag) (H : Hp) (p : Addr) (ks : List Str) (rws : List Rw) (ls : List Lk) : Prop where
  ex : ∃ (pk pf pl : Addr) (fts lts : List Addr), SqT K H p [.ref pk, .ref pf, .ref pl] ∧ SqT K H pk (ks.map V.str) ∧ SqT K H pf (fts.map V.ref) ∧ RwP K H fts rws ∧ SqT K H pl (lts.map V.ref) ∧ LnkP K H lts ls
theorem VwP.same {K : PySem.W.Frag} {H H' : Hp} {p : Addr} {ks : List Str} {rws : List Rw} {ls : List Lk} (h : VwP K H p ks rws ls) (s : Same H H') : VwP K H' p ks rws ls := by
  obtain ⟨pk, pf, pl, fts, lts, h1, h2, h3, h4, h5, h6⟩ := h.ex
  have sq : ∀ {t : Addr} {xs : List V}, SqT K H t xs → SqT K H' t xs := fun h => (Fr.of (S := []) s).sqt h List.not_mem_nil
  exact ⟨pk, pf, pl, fts, lts, sq h1, sq h2, sq h3, h4.same s, sq h5, h6.same s⟩
def vwD (ks : List Str) (rws : List Rw) (ls : List Lk) : PyData := .tuple [.tuple (ks.map PyData.str), .tuple (rws.map rowD), .tuple (ls.map lkD)]
theorem dp_lks {K : PySem.W.Frag} {H : Hp} : ∀ {ts : List Addr} {ls : List Lk}, LnkP K H ts ls → DpAll K H (ts.map V.ref) (ls.map lkD)
  | [], [], _ => .nil
  | t :: ts, e :: ls, h => .cons (.tup (h.at_ 0 t e rfl rfl) (.cons (.str _) (.cons (.int _) (.cons (.int _) .nil)))) (dp_lks ⟨by simpa using h.len, fun i t e a b => h.at_ (i + 1) t e a b⟩)
  | [], _ :: _, h => by have := h.len; simp at this
  | _ :: _, [], h => by have := h.len; simp at this
theorem VwP.dp {K : PySem.W.Frag} {H : Hp} {p : Addr} {ks : List Str} {rws : List Rw} {ls : List Lk} (h : VwP K H p ks rws ls) : Dp K H (.ref p) (vwD ks rws ls) := by
  obtain ⟨pk, pf, pl, fts, lts, h1, h2, h3, h4, h5, h6⟩ := h.ex
  exact .tup h1 (.cons (.tup h2 (dp_strs ks)) (.cons (.tup h3 (dpAll_of h4.len h4.at_)) (.cons (.tup h5 (dp_lks h6)) .nil)))
theorem shaped_lks {ls : List Lk} (h : ∀ e ∈ ls, PyData.strOk e.1 = true) : SeqAt.shaped (.tuple (ls.map lkD)) = true := shaped_tup fun d hd => by
  obtain ⟨e, he, rfl⟩ := List.mem_map.mp hd
  have := h e he
  exact ⟨shaped_of (by simp [lkD, PyData.canLay0, PyData.canLayAll0, this]) (by simp [lkD, PyData.depth, PyData.depthAll]), by simp [lkD, PyData.depth, PyData.depthAll]⟩
theorem dep_lks {ls : List Lk} : (PyData.tuple (ls.map lkD)).depth ≤ 3 := dep_tup fun d hd => by
  obtain ⟨e, he, rfl⟩ := List.mem_map.mp hd
  simp [lkD, PyData.depth, PyData.depthAll]
theorem dep_strs {ks : List Str} : (PyData.tuple (ks.map PyData.str)).depth ≤ 1 := dep_tup fun d hd => by
  obtain ⟨e, he, rfl⟩ := List.mem_map.mp hd
  simp [PyData.depth]
theorem dep_rows {rws : List Rw} : (PyData.tuple (rws.map rowD)).depth ≤ 4 := dep_tup fun d hd => by
  obtain ⟨e, he, rfl⟩ := List.mem_map.mp hd
  unfold rowD
  refine dep_tup fun d hd => ?_
  rcases List.mem_cons.mp hd with rfl | hd
  · exact Nat.le_trans dep_strs (by omega)
  · rw [List.mem_singleton.mp hd]; simp [PyData.depth]
theorem shaped_vw {ks : List Str} {rws : List Rw} {ls : List Lk} (h1 : ∀ k ∈ ks, PyData.strOk k = true) (h2 : ∀ r ∈ rws, ∀ k ∈ r.1, PyData.strOk k = true) (h3 : ∀ e ∈ ls, PyData.strOk e.1 = true) : SeqAt.shaped (vwD ks rws ls) = true := shaped_tup fun d hd => by
  rcases List.mem_cons.mp hd with rfl | hd
  · exact ⟨shaped_strT h1, Nat.le_trans dep_strs (by omega)⟩
  rcases List.mem_cons.mp hd with rfl | hd
  · exact ⟨shaped_rows h2, Nat.le_trans dep_rows (by omega)⟩
  · rw [List.mem_singleton.mp hd]
    exact ⟨shaped_lks h3, Nat.le_trans dep_lks (by omega)⟩
/-- a view that the table has told -/
theorem vw_told {K : PySem.W.Frag} {C : Addr} {A : TAd} {B : Tb} {H : Hp} {p pr pl : Addr} {rts : List Addr} {zs : List (Addr × Lk)} {ls : List Lk} (ht : TbP K C A B H) (h1 : SqT K H p [.ref A.ps, .ref pr, .ref pl]) (h2 : SqT K H pr (rts.map V.ref)) (h3 : RwP K H rts B.rows) (h4 : SqT K H pl (zs.map fun z => V.ref z.1)) (h5 : ∀ z ∈ zs, SqT K H z.1 (lkI z.2)) (h6 : zs.map (·.2) = ls) : VwP K H p B.ks B.rows ls := by
  refine ⟨A.ps, pr, pl, rts, zs.map (·.1), h1, ht.so, h2, h3, by rw [List.map_map]; exact h4, by rw [← h6, List.length_map, List.length_map], fun i t e a b => ?_⟩
  rw [← h6, List.getElem?_map] at b
  rw [List.getElem?_map] at a
  obtain ⟨z, hz, rfl⟩ := Option.map_eq_some_iff.mp a
  rw [hz] at b
  cases b
  exact h5 z (List.mem_of_getElem? hz)
/-- the links of the table, as the view tells them -/
structure LnkT (B : Tb) (ls : List Lk) : Prop where
  ok : LksOk B.rows.length B.ks ls
  rel : RelL B ls
  srt : ls = (lksAll B.ks B.nx).mergeSort lkLe
  small : ls.length < 1000
theorem lkLe_tot : PySem.W.TotalLe lkLe := by unfold lkLe PySem.W.dataLe; exact PySem.W.sortLe_total _ _ _
theorem lkLe_anti {a b : Lk} (h1 : lkLe a b = true) (h2 : lkLe b a = true) : a = b := by
  have e := (PyProof.Rows.listOrd PyProof.Rows.itemOrd).total (PySem.W.keyToks (lkD b)) (PySem.W.keyToks (lkD a)) (by simpa [lkLe, PySem.W.dataLe, PySem.W.sortLe] using h1) (by simpa [lkLe, PySem.W.dataLe, PySem.W.sortLe] using h2)
  obtain ⟨a1, a2, a3⟩ := a
  obtain ⟨b1, b2, b3⟩ := b
  simp only [lkD, PySem.W.keyToks, PySem.W.keyToksAll, List.cons_append, List.nil_append, List.cons.injEq, Sum.inl.injEq, Sum.inr.injEq, true_and, and_true] at e
  obtain ⟨e1, e2, e3⟩ := e
  have := PySem.W.str_of_cps e1
  rw [this, show a2 = b2 by omega, show a3 = b3 by omega]
def LPw (ls : List Lk) : Prop := ls.Pairwise fun a b => lkLe a b = true
theorem lpw_sort (ls : List Lk) : LPw (ls.mergeSort lkLe) := List.pairwise_mergeSort (fun a b c => lkLe_tot.trans a b c) (fun a b => by have := lkLe_tot.total a b; simpa using this) ls
theorem lks_eq {l1 l2 : List Lk} (p1 : LPw l1) (p2 : LPw l2) (n1 : l1.Nodup) (n2 : l2.Nodup) (h : ∀ e, e ∈ l1 ↔ e ∈ l2) : l1 = l2 :=
  ((List.perm_ext_iff_of_nodup n1 n2).mpr h).eq_of_pairwise (fun _ _ _ _ => lkLe_anti) p1 p2
theorem RelL.uniq {B : Tb} {l1 l2 : List Lk} (h1 : RelL B l1) (h2 : RelL B l2) (L : TbL B) (e : Lk) : e ∈ l1 ↔ e ∈ l2 := by
  have key : ∀ {l1 l2 : List Lk}, RelL B l1 → RelL B l2 → e ∈ l1 → e ∈ l2 := fun {l1 l2} h1 h2 h => by
    obtain ⟨i, hi⟩ := List.mem_iff_getElem?.mp (h1.k e h)
    obtain ⟨m, b, ak, _⟩ := L.at_ hi
    obtain ⟨k, r, o⟩ := e
    exact (h2.m i k m ak.k ak.x r o).mp ((h1.m i k m ak.k ak.x r o).mpr h)
  exact ⟨key h1 h2, key h2 h1⟩
theorem RelL.congr {B : Tb} {l1 l2 : List Lk} (h1 : RelL B l1) (n : l2.Nodup) (h : ∀ e, e ∈ l1 ↔ e ∈ l2) : RelL B l2 := ⟨fun e he => h1.k e ((h e).mpr he), fun i k m a b r o => (h1.m i k m a b r o).trans (h _), n⟩
theorem RelL.rows {B : Tb} {ls : List Lk} {rows : List Rw} (h : RelL B ls) : RelL { B with rows := rows } ls := ⟨h.k, h.m, h.nd⟩
theorem TbL.rows {B : Tb} {rows : List Rw} (h : TbL B) (hl : B.rows.length ≤ rows.length) : TbL { B with rows := rows } := ⟨h.ln, h.lb, fun i m b x y => (h.ok i m b x y).mono hl⟩
theorem LnkT.of {B : Tb} {ls : List Lk} (L : TbL B) (nd : B.ks.Nodup) (rl : RelL B ls) (pw : LPw ls) (sm : ls.length < 1000) : LnkT B ls := by
  obtain ⟨v1, v2⟩ := view_ok L nd
  have e := lks_eq pw (lpw_sort _) rl.nd v2.nd (rl.uniq v2 L)
  exact ⟨by rw [e]; exact v1, rl, e, sm⟩
def vwF {Γ : Gm} (p : Addr) (ks : List Str) (rws : List Rw) (ls : List Lk) : PF (E1 Γ) := ⟨fun H => VwP Γ.K H p ks rws ls, fun H H' k h => by
  obtain ⟨pk, pf, pl, fts, lts, h1, h2, h3, h4, h5, h6⟩ := h.ex
  refine ⟨pk, pf, pl, fts, lts, sqt_loc k h1, sqt_loc k h2, sqt_loc k h3, ⟨h4.len, fun i t r a b => ?_⟩, sqt_loc k h5, ⟨h6.len, fun i t e a b => sqt_loc k (h6.at_ i t e a b)⟩⟩
  obtain ⟨m, g1, g2⟩ := h4.at_ i t r a b
  exact ⟨m, sqt_loc k g1, sqt_loc k g2⟩⟩
theorem nm_m : Nm (Str.ofString "m") := ⟨by decide +kernel, by decide +kernel, by decide +kernel⟩
theorem nm_new : Nm (Str.ofString "new") := ⟨by decide +kernel, by decide +kernel, by decide +kernel⟩
theorem eqv_nil (ds : List PyData) : PyData.eqv (.tuple ds) (.tuple []) = ds.isEmpty := by cases ds <;> simp [PyData.eqv, PyData.eqvAll]
theorem eqv_lk (e e' : Lk) : PyData.eqv (lkD e) (lkD e') = decide (e = e') := by
  obtain ⟨a, r, o⟩ := e
  obtain ⟨a', r', o'⟩ := e'
  have h : PyData.eqv (lkD (a, r, o)) (lkD (a', r', o')) = (decide (a = a') && (decide (r = r') && decide (o = o'))) := by
    have h1 : decide (r = r') = (((r : Nat) : Int) == ((r' : Nat) : Int)) := by by_cases e : r = r' <;> simp [e]; omega
    have h2 : decide (o = o') = (((o : Nat) : Int) == ((o' : Nat) : Int)) := by by_cases e : o = o' <;> simp [e]; omega
    rw [h1, h2]
    simp [lkD, PyData.eqv, PyData.eqvAll]
    rfl
  rw [h]
  by_cases h1 : a = a' <;> by_cases h2 : r = r' <;> by_cases h3 : o = o' <;> simp [h1, h2, h3]
theorem rws_set {K : PySem.W.Frag} {H : Hp} {ts : List Addr} {rows : List Rw} (h : RwP K H ts rows) {i : Nat} {t m : Addr} {r : Rw} (h1 : SqT K H t [.ref m, .int r.2]) (h2 : SqT K H m (r.1.map V.str)) : RwP K H (ts.set i t) (rows.set i r) := by
  refine ⟨by rw [List.length_set, List.length_set]; exact h.len, fun j u v a b => ?_⟩
  rw [List.getElem?_set] at a b
  by_cases hij : i = j
  · rw [if_pos hij] at a b
    split at a
    · split at b
      · cases a; cases b; exact ⟨m, h1, h2⟩
      · cases b
    · cases a
  · rw [if_neg hij] at a b
    exact h.at_ j u v a b
theorem asc_rows {r1 r2 : List Rw} (h : RowsR r1 r2) (a1 : ∀ u ∈ r1, Asc u.1) (a2 : ∀ u ∈ r2, Asc u.1) : r1 = r2 := by
  refine List.ext_getElem? fun i => ?_
  cases e1 : r1[i]? with
  | none =>
    have := List.getElem?_eq_none_iff.mp e1
    exact (List.getElem?_eq_none (by rw [← h.1]; exact this)).symm
  | some u =>
    have hi := (List.getElem?_eq_some_iff.mp e1).1
    have e2 : r2[i]? = some (r2[i]'(by rw [← h.1]; exact hi)) := List.getElem?_eq_getElem _
    obtain ⟨h1, h2⟩ := h.2 i u _ e1 e2
    rw [e2]
    have h3 := (a1 u (List.mem_of_getElem? e1)).eq (a2 _ (List.mem_of_getElem? e2)) h2
    obtain ⟨x, y⟩ := u
    exact congrArg some (Prod.ext h3 h1)
theorem SS.oth {E : Hv} {H0 H H' : Hp} {S0 : List Addr} {F : List (PF E)} {R : List (RS E)} {q : Addr} {u : HO} (s : SS E H0 S0 H F R) (f : Fr [q] H H') (hq : H q = some u) (nm : ¬ Imm E.MC u) (n0 : H0 q = none) (nq : q ∉ fps R) : SS E H0 S0 H' F R where
  f := fun x hx => x.loc H H' (fun a o h i => f a o (fun z => by
    rcases i with i | i
    · exact nomatch i
    · rw [List.mem_singleton.mp z, hq] at h; cases h; exact nm i) h) (s.f x hx)
  r := fun x hx => x.loc H H' (fun a o h i => f a o (fun z => by
    rcases i with i | i
    · exact nq (by rw [← List.mem_singleton.mp z]; exact mem_fps hx a i)
    · rw [List.mem_singleton.mp z, hq] at h; cases h; exact nm i) h) (s.r x hx)
  nd := s.nd
  tr := fun a ha => by
    obtain ⟨o, h, i⟩ := s.tr a ha
    exact ⟨o, f a o (fun z => nq (by rw [← List.mem_singleton.mp z]; exact ha)) h, i⟩
  fr := fun a o hn h => f a o (fun z => by rw [List.mem_singleton.mp z, n0] at h; cases h) (s.fr a o hn h)
  ow := s.ow
mutual
/-- a copy of data, of lists that are new -/
inductive DL (H H' : Hp) : V → PyData → Prop
  | int (i : Int) : DL H H' (.int i) (.int i)
  | str (z : Str) : DL H H' (.str z) (.str z)
  | seq {p : Addr} {ys : List V} {ds : List PyData} : H p = none → H' p = some (.lst ys) → DLA H H' ys ds → DL H H' (.ref p) (.tuple ds)
inductive DLA (H H' : Hp) : List V → List PyData → Prop
  | nil : DLA H H' [] []
  | cons {y : V} {ys : List V} {d : PyData} {ds : List PyData} : DL H H' y d → DLA H H' ys ds → DLA H H' (y :: ys) (d :: ds)
end
mutual
theorem DL.mv {H0 H H' H2 : Hp} (s0 : Same H0 H) (s : ∀ a xs, H a = none → H' a = some (.lst xs) → H2 a = some (.lst xs)) : ∀ {y : V} {d : PyData}, DL H H' y d → DL H0 H2 y d
  | _, _, .int i => .int i
  | _, _, .str z => .str z
  | _, _, .seq h1 h2 h3 => .seq (by
      cases e : H0 _ with
      | none => rfl
      | some o => rw [s0 _ _ e] at h1; cases h1) (s _ _ h1 h2) (DLA.mv s0 s h3)
theorem DLA.mv {H0 H H' H2 : Hp} (s0 : Same H0 H) (s : ∀ a xs, H a = none → H' a = some (.lst xs) → H2 a = some (.lst xs)) : ∀ {ys : List V} {ds : List PyData}, DLA H H' ys ds → DLA H0 H2 ys ds
  | _, _, .nil => .nil
  | _, _, .cons a b => .cons (DL.mv s0 s a) (DLA.mv s0 s b)
end
theorem DLA.snoc {H H' : Hp} {y : V} {d : PyData} (k : DL H H' y d) : ∀ {ys : List V} {ds : List PyData}, DLA H H' ys ds → DLA H H' (ys ++ [y]) (ds ++ [d])
  | _, _, .nil => .cons k .nil
  | _, _, .cons a b => .cons a (b.snoc k)
/-- data of tuples, texts, numbers -/
def tupl : PyData → Prop
  | .int _ => True
  | .str _ => True
  | .tuple ds => ds.length < 100000 ∧ tuplA ds
  | _ => False
where tuplA : List PyData → Prop
  | [] => True
  | d :: ds => tupl d ∧ tuplA ds
theorem tuplA_mem : ∀ {ds : List PyData} {d : PyData}, tupl.tuplA ds → d ∈ ds → tupl d
  | _ :: _, _, h, .head _ => h.1
  | _ :: _, _, h, .tail _ k => tuplA_mem h.2 k
def spLists (K : PySem.W.Frag) (d : Nat) : Sp := fun vs H Q _ => ∃ (x : V) (dt : PyData), vs = [x] ∧ Dp K H x dt ∧ tupl dt ∧ dt.depth < d ∧ ∀ y H', Same H H' → DL H H' y dt → Q y H'
abbrev s_lists : Stmt := topS 26
abbrev n_lists : List Str := ["_law_matter", "_law_bit"]
theorem sc_lists : FnScope n_lists ["_law_matter"] (defScope s_lists) := ⟨rfl, rfl, rfl, by decide +kernel, rfl, by decide +kernel, by decide +kernel⟩
theorem nm_lists : nvB n_lists (defScope s_lists) 0 "_law_matter" = true ∧ gvB (defScope s_lists) "isinstance" = true ∧ gvB (defScope s_lists) "list" = true ∧ gvB (defScope s_lists) "tuple" = true := by decide +kernel
theorem cl_lists {Γ : Gm} (dfn : Dfn Γ "_law_lists" s_lists ["_law_matter"]) (T : Names Γ) {d : Nat} (c_law_lists : Cl Γ CX0 (d + 1) "_law_lists" (spLists Γ.K d) []) : Cl Γ CX0 (d + 2) "_law_lists" (spLists Γ.K (d + 1)) [] := by
  refine dfn.cl sc_lists (fun vs H Q E h => ?_) (fun f cdv A outer s H vs Q E hg h => ?_)
  · obtain ⟨x, dt, rfl, _⟩ := h
    rfl
  obtain ⟨x, dt, rfl, hx, ht, hd, q⟩ := h
  have nd := sc_lists.nd
  obtain ⟨v0, g_isinstance, g_list, g_tuple⟩ := nm_lists
  refine ⟨_, (pss_one (ps_ret (pe_ifB (pt_tr hg (pcb (WC.ok hg) g_isinstance T.n_isinstance bt_isinstance (pa_cons (ps 0 v0) (pa_cons (pe_tup (pa_cons (pe_bltn (v := .ty "list") (gv_of g_list).1 T.n_list bt_list rfl) (pa_cons (pe_bltn (v := .ty "tuple") (gv_of g_tuple).1 T.n_tuple bt_tuple rfl) pa_nil))) pa_nil)))) (pe_lc (own := [("_law_bit", 1)]) rfl nd (pi_t hg (ps 0 v0)) (blkOk_by (N := n_lists) (sc := defScope s_lists) (by decide +kernel)) (fun _ _ _ _ _ => (pg_name (i := 1) nd rfl (by first | exact .inl rfl | exact .inr rfl))) (fun _ _ _ _ _ => pts_nil) (fun _ _ _ _ _ => (pcl c_law_lists hg.blk (by omega) (by rfl) pass0 (pa_cons (psr 1) pa_nil)))) (ps 0 v0)))), ?_⟩
  refine st_start (σ := [some _, none]) rfl ?_
  walk_at "dn"
  refine ⟨szl (by simp only [List.length_cons, List.length_nil]; omega), fun T hT => ?_⟩
  have s1 := Same.mk (o := .tup [.ty "list", .ty "tuple"]) hT
  replace hx := Dp.same s1 hx
  cases hx with
  | int i =>
    refine wc_isi2 (Dp.int i) upd_same ki_int_list ki_int_tuple ?_
    walk_at "di"
    exact q _ _ s1 (.int i)
  | str v =>
    refine wc_isi2 (Dp.str v) upd_same ki_str_list ki_str_tuple ?_
    walk_at "di"
    exact q _ _ s1 (.str v)
  | bl v => exact ht.elim
  | non => exact ht.elim
  | @lst b xs2 ds h1 h2 => exact ht.elim
  | @tup b xs2 ds h1 h2 =>
    refine wc_isi2 (.tup h1 h2) upd_same ki_tuple_list ki_tuple_tuple ?_
    walk_at "di"
    refine ⟨b, rfl, ⟨_, h1⟩, fun D hD => ?_⟩
    have l2 := DpAll.len h2
    have hl : ds.length < 100000 := ht.1
    have hdd : PyData.depthAll ds + 1 < d + 1 := hd
    refine lq_it (walk_tup (xs := xs2)) (fun i acc H' => SS (E1 Γ) (upd H T (.tup [.ty "list", .ty "tuple"])) [] H' [] [lstR D acc] ∧ DLA (upd H T (.tup [.ty "list", .ty "tuple"])) (del H' D) acc (ds.take i)) ⟨SS.start0.newC (o := .lst []) hD (fun z => z), .nil⟩ (fun _ _ _ _ ⟨s, _⟩ => s.fr.sqt h1 List.not_mem_nil) ?_ ?_
    · rintro i x acc H1 H2 hi hl2 ⟨s, ha⟩ ⟨rfl, hx2⟩
      have hx3 : xs2[i]? = some x := hx2
      obtain ⟨dt1, e1, p1⟩ := DpAll.at_ h2 hx3
      have hm := List.mem_of_getElem? e1
      walk_at "dn"
      refine ⟨rfl, x, dt1, rfl, Dp.same s.fr.same p1, tuplA_mem ht.2 hm, by have := depthA_mem hm; omega, fun y H3 s3 hy => ?_⟩
      have s4 := s.same s3
      refine lq_add s4 hl2 (lt_size (by omega)) ⟨_, lq_len hl2, s4.app, ?_⟩
      have htk : ds.take (i + 1) = ds.take i ++ [dt1] := by rw [List.take_add_one, e1]; rfl
      rw [htk]
      have cD := s.cell (p := D) (b := false) (.head _)
      refine DLA.snoc (DL.mv s.fr.same (fun a xs n e => ?_) hy) (DLA.mv (Same.refl _) (fun a xs _ e => ?_) ha)
      · have na : a ≠ D := fun z => by rw [z, cD] at n; cases n
        rw [del_ne na, upd_ne na]
        exact e
      · have na : a ≠ D := fun z => by rw [z, del_same] at e; cases e
        rw [del_ne na] at e
        rw [del_ne na, upd_ne na]
        exact s3 _ _ e
    · rintro acc H1 hl2 ⟨s, ha⟩
      rw [l2, List.take_length] at ha
      refine q _ _ (s1.trans s.fr.same) (.seq ?_ (s.cell (.head _)) (DLA.mv s1 (fun a xs _ e => ?_) ha))
      · cases e : H D with
        | none => rfl
        | some o => rw [s1 _ _ e] at hD; cases hD
      · have na : a ≠ D := fun z => by rw [z, del_same] at e; cases e
        rw [del_ne na] at e
        exact e
  
  /-- a view, made of new lists -/
  structure LsV (H H' : Hp) (y : V) (ks : List Str) (rws : List Rw) (ls : List Lk) (K : PySem.W.Frag) : Prop where
    ex : ∃ (p p0 p1 p2 : Addr) (rts lts : List Addr), y = .ref p ∧ H p = none ∧ H p0 = none ∧ H p2 = none ∧ H' p = some (.lst [.ref p0, .ref p1, .ref p2]) ∧ H' p0 = some (.lst (ks.map V.str)) ∧ H' p1 = some (.lst (rts.map V.ref)) ∧ H' p2 = some (.lst (lts.map V.ref)) ∧ RwG K H' rts rws ∧ LnkG K H' lts ls
  theorem dla_strs {K : PySem.W.Frag} {H H' : Hp} : ∀ {ks : List Str} {ys : List V}, DLA H H' ys (ks.map PyData.str) → ys = ks.map V.str
    | [], _, .nil => rfl
    | k :: ks, _, .cons h1 h2 => by
      cases h1
      rw [List.map_cons, dla_strs (K := K) h2]
  theorem dla_rows {K : PySem.W.Frag} {H H' : Hp} : ∀ {rws : List Rw} {ys : List V}, DLA H H' ys (rws.map rowD) → ∃ rts : List Addr, ys = rts.map V.ref ∧ RwG K H' rts rws
    | [], _, .nil => ⟨[], rfl, rfl, fun i t r h => by simp at h⟩
    | r :: rws, _, .cons h1 h2 => by
      obtain ⟨rts, rfl, k⟩ := dla_rows (K := K) h2
      unfold rowD at h1
      cases h1 with
      | @seq p ys ds a1 a2 a3 =>
        cases a3 with
        | cons b1 b2 =>
          cases b1 with
          | @seq m zs _ c1 c2 c3 =>
            cases b2 with
            | cons d1 d2 =>
              cases d1
              cases d2
              refine ⟨p :: rts, rfl, by rw [List.length_cons, List.length_cons, k.len], fun i t u ht hu => ?_⟩
              match i, ht, hu with
              | 0, ht, hu =>
                cases ht
                cases hu
                exact ⟨m, .inr (SqL.of a2), .inr (SqL.of (by rw [c2, dla_strs (K := K) c3]))⟩
              | i + 1, ht, hu => exact k.at_ i t u ht hu
  theorem dla_lks {K : PySem.W.Frag} {H H' : Hp} : ∀ {ls : List Lk} {ys : List V}, DLA H H' ys (ls.map lkD) → ∃ lts : List Addr, ys = lts.map V.ref ∧ LnkG K H' lts ls
    | [], _, .nil => ⟨[], rfl, rfl, fun i t r h => by simp at h⟩
    | e :: ls, _, .cons h1 h2 => by
      obtain ⟨lts, rfl, k⟩ := dla_lks (K := K) h2
      unfold lkD at h1
      cases h1 with
      | @seq p ys ds a1 a2 a3 =>
        cases a3 with
        | cons b1 b2 =>
          cases b1
          cases b2 with
          | cons b1 b2 =>
            cases b1
            cases b2 with
            | cons b1 b2 =>
              cases b1
              cases b2
              refine ⟨p :: lts, rfl, by rw [List.length_cons, List.length_cons, k.len], fun i t u ht hu => ?_⟩
              match i, ht, hu with
              | 0, ht, hu =>
                cases ht
                cases hu
                exact .inr (SqL.of a2)
              | i + 1, ht, hu => exact k.at_ i t u ht hu
  theorem DL.vw {K : PySem.W.Frag} {H H' : Hp} {y : V} {ks : List Str} {rws : List Rw} {ls : List Lk} (h : DL H H' y (vwD ks rws ls)) : LsV H H' y ks rws ls K := by
    unfold vwD at h
    cases h with
    | @seq p ys ds a1 a2 a3 =>
      cases a3 with
      | cons b1 b2 =>
        cases b2 with
        | cons b2 b3 =>
          cases b3 with
          | cons b3 b4 =>
            cases b4
            cases b1 with
            | @seq p0 y0 _ c1 c2 c3 =>
              cases b2 with
              | @seq p1 y1 _ d1 d2 d3 =>
                cases b3 with
                | @seq p2 y2 _ e1 e2 e3 =>
                  obtain ⟨rts, rfl, k1⟩ := dla_rows (K := K) d3
                  obtain ⟨lts, rfl, k2⟩ := dla_lks (K := K) e3
                  have := dla_strs (K := K) c3
                  subst this
                  exact ⟨p, p0, p1, p2, rts, lts, rfl, a1, c1, e1, a2, c2, d2, e2, k1, k2⟩
  theorem tupl_vw {ks : List Str} {rws : List Rw} {ls : List Lk} (h1 : ks.length < 1000) (h2 : rws.length < 1000) (h3 : ls.length < 1000) (h4 : ∀ r ∈ rws, r.1.length < 1000) : tupl (vwD ks rws ls) := by
    have a : ∀ {ks : List Str}, tupl.tuplA (ks.map PyData.str) := fun {ks} => by
      induction ks with
      | nil => exact trivial
      | cons x xs ih => exact ⟨trivial, ih⟩
    have b : ∀ {rws : List Rw}, (∀ r ∈ rws, r.1.length < 1000) → tupl.tuplA (rws.map rowD) := fun {rws} h => by
      induction rws with
      | nil => exact trivial
      | cons x xs ih => exact ⟨⟨by simp, ⟨by rw [List.length_map]; have := h x (.head _); omega, a⟩, trivial, trivial⟩, ih fun r hr => h r (.tail _ hr)⟩
    have c : ∀ {ls : List Lk}, tupl.tuplA (ls.map lkD) := fun {ls} => by
      induction ls with
      | nil => exact trivial
      | cons x xs ih => exact ⟨⟨by simp, trivial, trivial, trivial, trivial⟩, ih⟩
    exact ⟨by simp, ⟨by rw [List.length_map]; omega, a⟩, ⟨by rw [List.length_map]; omega, b h4⟩, ⟨by rw [List.length_map]; omega, c⟩, trivial⟩
  theorem dep_vw {ks : List Str} {rws : List Rw} {ls : List Lk} : (vwD ks rws ls).depth ≤ 5 := dep_tup fun d hd => by
    rcases List.mem_cons.mp hd with rfl | hd
    · exact Nat.le_trans dep_strs (by omega)
    rcases List.mem_cons.mp hd with rfl | hd
    · exact Nat.le_trans dep_rows (by omega)
    · rw [List.mem_singleton.mp hd]
      exact Nat.le_trans dep_lks (by omega)
/-- a table as another one -/
def spCopied (K : PySem.W.Frag) (C : Addr) : Sp := fun vs H Q _ => ∃ (A1 : TAd) (B1 : Tb), vs = [.ref A1.a] ∧ TbP K C A1 B1 H ∧ TbL B1 ∧ (∀ k ∈ B1.ks, Nm k) ∧ B1.ks.length ≤ 20 ∧ B1.rows.length < 100 ∧ (∀ u ∈ B1.rows, (∀ z ∈ u.1, Nm z) ∧ u.1.length < 60) ∧ (lksAll B1.ks B1.nx).length < 100 ∧
  ∀ (A : TAd) (B : Tb) (l1 : List Lk) H', Same H H' → (∀ a ∈ A.fp, H a = none) → TbP K C A B H' → RowsR B.rows B1.rows → RelL B1 l1 → RelL B l1 → TbL B → B.ks = B1.ks → Q (.ref A.a) H'
/-- a class, by its name -/
structure GlC (Γ : Gm) (x : Str) (C : Addr) : Prop where
  mg : Γ.mg x = some (.ref C)
def spBesideX (K : PySem.W.Frag) (C CE : Addr) : Sp := fun vs H _ E => ∃ (A1 A2 : TAd) (B1 B2 : Tb), vs = [.ref A1.a, .ref A2.a] ∧ TbP K C A1 B1 H ∧ TbP K C A2 B2 H ∧ B1.ks ≠ B2.ks ∧ (∀ k ∈ B1.ks, Nm k) ∧ (∀ k ∈ B2.ks, Nm k) ∧ ∀ d, H d = none → E (.ref CE) (some d) (upd H d (.xd [("shown", .bl false)]))
def spUnlike (K : PySem.W.Frag) (C : Addr) : Sp := fun vs H Q _ => ∃ (A1 A2 : TAd) (B1 B2 : Tb), vs = [.ref A1.a, .ref A2.a] ∧ TbP K C A1 B1 H ∧ TbP K C A2 B2 H ∧ B1.ks ≠ B2.ks ∧ (∀ k ∈ B1.ks, Nm k) ∧ (∀ k ∈ B2.ks, Nm k) ∧ ∀ H', Same H H' → Q (.bl true) H'
abbrev s_copied : Stmt := inClass (topS 17) 22
abbrev n_copied : List Str := ["self", "kinds", "rows", "links"]
theorem sc_copied : FnScope n_copied ["self"] (defScope s_copied) := ⟨rfl, rfl, rfl, by decide +kernel, rfl, by decide +kernel, by decide +kernel⟩
theorem nm_copied : nvB n_copied (defScope s_copied) 0 "self" = true ∧ nvB n_copied (defScope s_copied) 1 "kinds" = true ∧ nvB n_copied (defScope s_copied) 2 "rows" = true ∧ nvB n_copied (defScope s_copied) 3 "links" = true ∧ lvB n_copied (defScope s_copied) 1 "kinds" = true ∧ lvB n_copied (defScope s_copied) 2 "rows" = true ∧ lvB n_copied (defScope s_copied) 3 "links" = true ∧ gvB (defScope s_copied) "Table" = true := by decide +kernel
theorem cl_copied {Γ : Gm} {C : Addr} (dfn : DfM Γ C "copied" "Table.copied" s_copied ["self"]) (T : Names Γ) (L : KT Γ C) (k_Table : Mkr Γ CX0 11 "Table" C (spTInitF Γ.K C) []) (m_view : Mt Γ CX0 1 C "view" (spView Γ.K C) []) : Mt Γ CX0 (13) C "copied" (spCopied Γ.K C) [] := by
  refine dfn.mt sc_copied (fun vs H Q E h => ?_) (fun f cdv A outer s H vs Q E hg h => ?_)
  · obtain ⟨A1, B1, rfl, _⟩ := h
    rfl
  obtain ⟨A1, B1, rfl, t1, L1, nk, lk, r1, hu, n1, q⟩ := h
  have nd := sc_copied.nd
  obtain ⟨v0, v1, v2, v3, l1, l2, l3, g_Table⟩ := nm_copied
  refine ⟨_, (pss_cons (ps_asg (pe_mw0 hg (ps 0 v0)) (pg_tK hg 3 rfl (pgs_c (pgn (i := 1) nd l1) (pgs_c (pgn (i := 2) nd l2) (pgs_c (pgn (i := 3) nd l3) pgs_0)))))
    (pss_one (ps_ret (pmk k_Table hg (by omega) g_Table pass0 (pa_cons (ps 1 v1) (pa_cons (ps 2 v2) (pa_cons (ps 3 v3) pa_nil))))))), ?_⟩
  refine st_start (σ := [some _, none, none, none]) rfl ?_
  walk_at "dn"
  refine ⟨1, C, A1.a, A1.dx, A1.fs, spView Γ.K C, [], E0, ⟨m_view.ex⟩, by omega, rfl, t1.ins, by rfl, A1, B1, rfl, t1, by omega, by omega, fun p pr pl rts zs H1 s1 hp hpr hrw hpl hzs ez => ?_⟩
  refine gt_of hp rfl ?_
  walk_at "dn"
  obtain ⟨v1, v2⟩ := view_ok L1 t1.ka.nd
  rw [← ez] at v1 v2
  have lz : (zs.map (·.2)).length = (lksAll B1.ks B1.nx).length := by rw [ez]; exact List.length_mergeSort _
  intro x dx hx hdx ne
  refine mkT0 (c := false) (b1 := false) (b2 := false) (ks := B1.ks) (rts := rts) (rws := B1.rows) (lts := zs.map (·.1)) (ls := zs.map (·.2)) hx hdx ne (t1.same s1).so nk t1.ka.nd lk (fun h => by cases h) (fun h => by cases h) hpr hrw hu (by omega) (by rw [List.map_map]; exact hpl) (lnk_zs hzs) v1 (by omega) fun A B H7 ea s7 new t7 rr rx rb rm => ⟨rfl, ?_⟩
  subst ea
  have eB : B.ks = B1.ks := t7.ka.eq t1.ka rm
  have lB : B.rows.length = B1.rows.length := rr.1
  refine q A B _ H7 (s1.trans s7) (fun a ha => ?_) t7 rr v2 (RelL.of v1 rx rm) (TbL.of (by rw [lB]; exact v1) rx rb rm) eB
  cases e : H a with
  | none => rfl
  | some o =>
    have h1 := new a ha
    rw [s1 a o e] at h1
    cases h1
abbrev s_besideX : Stmt := topS 18
abbrev n_besideX : List Str := ["one", "two", "kinds", "rows", "links", "there", "size", "moved", "kind", "row", "other"]
theorem sc_besideX : FnScope n_besideX ["one", "two"] (defScope s_besideX) := ⟨rfl, rfl, rfl, by decide +kernel, rfl, by decide +kernel, by decide +kernel⟩
theorem nm_besideX : nvB n_besideX (defScope s_besideX) 0 "one" = true ∧ nvB n_besideX (defScope s_besideX) 1 "two" = true ∧ gvB (defScope s_besideX) "Unlike" = true := by decide +kernel
theorem cl_besideX {Γ : Gm} (dfn : Dfn Γ "beside" s_besideX ["one", "two"]) (T : Names Γ) {C CE : Addr} (L : KT Γ C) (p_kinds : Pr Γ CX0 1 C "kinds" (spTKinds Γ.K C)) (e_Unlike : ErrK Γ 1 "Unlike" CE 0 (fun _ => [("shown", .bl false)]) ["shown"]) : Cl Γ (CXN Γ) (13) "beside" (spBesideX Γ.K C CE) [] := by
  refine dfn.clN sc_besideX (fun vs H Q E h => ?_) (fun f cdv A outer s H vs Q E hg tk po h => ?_)
  · obtain ⟨A1, A2, B1, B2, rfl, _⟩ := h
    rfl
  obtain ⟨A1, A2, B1, B2, rfl, t1, t2, ne, n1, n2, q⟩ := h
  have nd := sc_besideX.nd
  obtain ⟨v0, v1, g_Unlike⟩ := nm_besideX
  refine ⟨_, (pss_cons (ps_ifB (pt_cm (k_ne hg) (pe_at (WA.ok hg) (ps 0 v0)) (pe_at (WA.ok hg) (ps 1 v1)) (nomark _))
    (pss_one (ps_rz hg tk (pmkN0 e_Unlike hg (by omega) g_Unlike)))
    pss_nil)
    (pss_cons ps_never
    (pss_cons ps_never
    (pss_cons ps_never
    (pss_cons ps_never
    (pss_one ps_never)))))), ?_⟩
  refine st_start (σ := [some _, some _, none, none, none, none, none, none, none, none, none]) rfl ?_
  walk_at "dn"
  have ok1 : ∀ k ∈ B1.ks, PyData.strOk k = true := fun k h => (n1 k h).ok
  have ok2 : ∀ k ∈ B2.ks, PyData.strOk k = true := fun k h => (n2 k h).ok
  refine wa_prop p_kinds (E := E0) (by omega) t1.ins ⟨A1, B1, rfl, t1, ?_⟩
  refine wa_prop p_kinds (E := E0) (by omega) t2.ins ⟨A2, B2, rfl, t2, ?_⟩
  refine wo_neST t1.so t2.so ok1 ok2 ?_
  rw [decide_eq_false ne]
  walk_at "di"
  exact ⟨rfl, q⟩
abbrev s_unlike : Stmt := topS 33
abbrev n_unlike : List Str := ["_law_one", "_law_two", "_law_told", "e"]
theorem sc_unlike : FnScope n_unlike ["_law_one", "_law_two"] (defScope s_unlike) := ⟨rfl, rfl, rfl, by decide +kernel, rfl, by decide +kernel, by decide +kernel⟩
theorem nm_unlike : nvB n_unlike (defScope s_unlike) 0 "_law_one" = true ∧ nvB n_unlike (defScope s_unlike) 1 "_law_two" = true ∧ nvB n_unlike (defScope s_unlike) 2 "_law_told" = true ∧ nvB n_unlike (defScope s_unlike) 3 "e" = true ∧ lvB n_unlike (defScope s_unlike) 2 "_law_told" = true ∧ llB n_unlike (defScope s_unlike) 3 "e" = true ∧ gvB (defScope s_unlike) "LineError" = true ∧ gvB (defScope s_unlike) "Unlike" = true ∧ gvB (defScope s_unlike) "ValueError" = true ∧ gvB (defScope s_unlike) "beside" = true ∧ gvB (defScope s_unlike) "isinstance" = true := by decide +kernel
theorem cl_unlike {Γ : Gm} (dfn : Dfn Γ "_law_unlike" s_unlike ["_law_one", "_law_two"]) (T : Names Γ) {C CE CL : Addr} (c_beside : Cl Γ (CXN Γ) 13 "beside" (spBesideX Γ.K C CE) []) (e_LineError : GlC Γ "LineError" CL) (gc_Unlike : ∃ u, Γ.mg "Unlike" = some u ∧ RelV (.ref CE) u) (exy : PySem.W.exmOne Γ.K (.ref CE) (.ref CL) = some true) (exc : ExcC Γ.K CE) (k1 : PySem.W.kitOne Γ.K (.ref CE) (.ref CE) = some true) (k2 : PySem.W.kitOne Γ.K (.ref CE) (.type "ValueError") = some true) : Cl Γ CX0 (20) "_law_unlike" (spUnlike Γ.K C) [] := by
  refine dfn.cl sc_unlike (fun vs H Q E h => ?_) (fun f cdv A outer s H vs Q E hg h => ?_)
  · obtain ⟨A1, A2, B1, B2, rfl, _⟩ := h
    rfl
  obtain ⟨A1, A2, B1, B2, rfl, t1, t2, ne, n1, n2, q⟩ := h
  have nd := sc_unlike.nd
  obtain ⟨v0, v1, v2, v3, l2, ll3, g_LineError, g_Unlike, g_ValueError, g_beside, g_isinstance⟩ := nm_unlike
  refine ⟨_, (pss_cons (pst (i := 2) nd l2 pe_bl)
    (pss_cons (ps_tryA hg rfl rfl nd (i := 3) ll3 e_LineError.mg g_LineError takes_no
    (fun _ _ _ tk1 po1 => (pss_one (ps_expr (pclX c_beside hg.tr tk1 (by omega) g_beside (pa_cons (ps 0 v0) (pa_cons (ps 1 v1) pa_nil))))))
    (fun _ _ _ _ _ hz hf => (pss_one (pst (i := 2) nd l2 (pe_andS (Γ := Γ) rfl (pcb (call_isN rfl hz hf) g_isinstance T.n_isinstance bt_isinstance (pa_cons (ps 3 v3) (pa_cons (C8.pe_gc (gv_of g_Unlike).1 gc_Unlike) pa_nil))) (pe_one (pcb (call_isN rfl hz hf) g_isinstance T.n_isinstance bt_isinstance (pa_cons (ps 3 v3) (pa_cons (pe_bltn (v := .ty "ValueError") (gv_of g_ValueError).1 T.n_ValueError bt_ValueError rfl) pa_nil)))))))))
    (pss_one (ps_ret (ps 2 v2))))), ?_⟩
  refine st_start (σ := [some _, some _, none, none]) rfl ?_
  walk_at "dn"
  refine ⟨A1, A2, B1, B2, rfl, t1, t2, ne, n1, n2, fun d hd => ?_⟩
  refine wAs_yes exy fun e he => ?_
  walk_at "dn"
  refine ⟨CE, d, _, .ref CE, .ref CE, true, rfl, rfl, rfl, upd_same, exc, .own CE, k1, ?_⟩
  walk_at "di"
  refine ⟨CE, d, _, .ty "ValueError", .type "ValueError", true, rfl, rfl, rfl, upd_same, exc, .ty _, k2, ?_⟩
  exact q _ (Same.mk hd)
def spShifted (K : PySem.W.Frag) : Sp := fun vs H Q _ => ∃ (v : Addr) (ks : List Str) (rws : List Rw) (ls : List Lk) (by_ : Nat), vs = [.ref v, .int by_] ∧ VwP K H v ks rws ls ∧ ls.length < 1000 ∧ ∀ D ts H', Same H H' → H' D = some (.lst (ts.map V.ref)) → LnkP K H' ts (mv by_ ls) → Q (.ref D) H'
def spLBeside (K : PySem.W.Frag) : Sp := fun vs H Q _ => ∃ (v1 v2 : Addr) (ks1 ks2 : List Str) (r1 r2 : List Rw) (l1 l2 : List Lk), vs = [.ref v1, .ref v2] ∧ VwP K H v1 ks1 r1 l1 ∧ VwP K H v2 ks2 r2 l2 ∧ l1.length < 400 ∧ l2.length < 400 ∧ r1.length < 400 ∧ r2.length < 400 ∧ ∀ v H', Same H H' → VwP K H' v ks1 (r1 ++ r2) ((l1 ++ mv r1.length l2).mergeSort lkLe) → Q (.ref v) H'
def spLChg (K : PySem.W.Frag) (C : Addr) : Sp := fun vs H Q _ => ∃ (A : TAd) (B : Tb), vs = [.ref A.a, .int B.rows.length] ∧ TbP K C A B H ∧ TbL B ∧ B.rows.length < 1000 ∧ (∀ u ∈ B.rows, u.1.length < 50) ∧ 1 ≤ B.ks.length ∧ ∀ B' H', Fr A.fp H H' → TbP K C A B' H' → B'.rows.length = B.rows.length + 1 → B'.ks = B.ks → TbL B' → Q (.bl true) H'
abbrev s_shifted : Stmt := topS 31
abbrev n_shifted : List Str := ["_law_view_here", "_law_by", "_law_kind", "_law_row", "_law_other"]
theorem sc_shifted : FnScope n_shifted ["_law_view_here", "_law_by"] (defScope s_shifted) := ⟨rfl, rfl, rfl, by decide +kernel, rfl, by decide +kernel, by decide +kernel⟩
theorem nm_shifted : nvB n_shifted (defScope s_shifted) 0 "_law_view_here" = true := by decide +kernel
theorem cl_shifted {Γ : Gm} (dfn : Dfn Γ "_law_shifted" s_shifted ["_law_view_here", "_law_by"]) (T : Names Γ) : Cl Γ CX0 (1) "_law_shifted" (spShifted Γ.K) [] := by
  refine dfn.cl sc_shifted (fun vs H Q E h => ?_) (fun f cdv A outer s H vs Q E hg h => ?_)
  · obtain ⟨v, ks, rws, ls, by_, rfl, _⟩ := h
    rfl
  obtain ⟨v, ks, rws, ls, by_, rfl, hv, lls, q⟩ := h
  have nd := sc_shifted.nd
  obtain v0 := nm_shifted
  refine ⟨_, (pss_one (ps_ret (pe_lc (own := [("_law_kind", 2), ("_law_row", 3), ("_law_other", 4)]) rfl nd (pi_t hg (pe_ix (WX.ok hg) (ps 0 v0) pe_int (fun _ _ => rfl))) (blkOk_by (N := n_shifted) (sc := defScope s_shifted) (by decide +kernel)) (fun _ _ _ _ _ => (pg_tK hg.blk 3 rfl (pgs_c (pg_name (i := 2) nd rfl (by first | exact .inl rfl | exact .inr rfl)) (pgs_c (pg_name (i := 3) nd rfl (by first | exact .inl rfl | exact .inr rfl)) (pgs_c (pg_name (i := 4) nd rfl (by first | exact .inl rfl | exact .inr rfl)) pgs_0))))) (fun _ _ _ _ _ => pts_nil) (fun _ _ _ _ _ => (pe_tup (pa_cons (psr 2) (pa_cons (pe_op (k_add hg.blk) (psr 3) (psr 1)) (pa_cons (pe_op (k_add hg.blk) (psr 4) (psr 1)) pa_nil)))))))), ?_⟩
  refine st_start (σ := [some _, some _, none, none, none]) rfl ?_
  walk_at "dn"
  obtain ⟨pk, pf, pl, fts, lts, h1, h2, h3, h4, h5, h6⟩ := hv.ex
  refine wx_t h1 (v := .ref pl) (atG (j := 2) rfl rfl) ⟨pl, rfl, ⟨_, h5⟩, fun D hD => ?_⟩
  refine lq_it (walk_tup (xs := lts.map V.ref)) (fun j acc H' => ∃ ts2 : List Addr, acc = ts2.map V.ref ∧ SS (E := E1 Γ) H [] H' [lksF ts2 (mv by_ (ls.take j))] [lstR D acc]) ⟨[], rfl, (SS.start0.newC (o := .lst []) hD (fun z => z)).add (lksF [] []) ⟨rfl, fun i t e h => by simp at h⟩⟩ (fun _ _ _ _ ⟨_, _, s⟩ => s.fr.sqt h5 List.not_mem_nil) ?_ ?_
  · rintro j x acc H5 H6 hj hl2 ⟨ts2, rfl, s⟩ ⟨rfl, hx2⟩
    have hx3 : (lts.map V.ref)[j]? = some x := hx2
    rw [List.getElem?_map] at hx3
    obtain ⟨lt, hlt, rfl⟩ := Option.map_eq_some_iff.mp hx3
    rw [List.length_map] at hj
    obtain ⟨e, he⟩ : ∃ e, ls[j]? = some e := ⟨_, List.getElem?_eq_getElem (by have := h6.len; omega)⟩
    refine gt_of (s.fr.sqt (h6.at_ j lt e hlt he) List.not_mem_nil) rfl ?_
    walk_at "dn"
    refine ⟨rfl, szl (by simp only [List.length_cons, List.length_nil]; omega), fun T hT => ?_⟩
    have s4 := s.newT (xs := lkI (e.1, e.2.1 + by_, e.2.2 + by_)) hT
    refine lq_add s4 hl2 (lt_size (by have := h6.len; omega)) ⟨_, lq_len hl2, ts2 ++ [T], by rw [List.map_append]; rfl, ?_⟩
    have et : mv by_ (ls.take (j + 1)) = mv by_ (ls.take j) ++ [(e.1, e.2.1 + by_, e.2.2 + by_)] := by
      rw [List.take_add_one, he]
      unfold mv
      rw [List.map_append]
      rfl
    rw [et]
    have s7 := s4.app (y := .ref T)
    exact (s7.add (lksF (ts2 ++ [T]) _) (lksF_app (s7.f (lksF ts2 _) (.tail _ (.head _))) (s7.tup (.head _)))).sub fun w hw => by
      rw [List.mem_singleton.mp hw]; exact .head _
  rintro acc H5 hl2 ⟨ts2, rfl, s⟩
  rw [List.length_map, h6.len, List.take_length] at s
  exact q D ts2 H5 s.fr.same (s.cell (.head _)) (s.f (lksF ts2 _) (.head _))
abbrev s_lbeside : Stmt := topS 32
abbrev n_lbeside : List Str := ["_law_front", "_law_rear", "_law_joint"]
theorem sc_lbeside : FnScope n_lbeside ["_law_front", "_law_rear"] (defScope s_lbeside) := ⟨rfl, rfl, rfl, by decide +kernel, rfl, by decide +kernel, by decide +kernel⟩
theorem nm_lbeside : nvB n_lbeside (defScope s_lbeside) 0 "_law_front" = true ∧ nvB n_lbeside (defScope s_lbeside) 1 "_law_rear" = true ∧ nvB n_lbeside (defScope s_lbeside) 2 "_law_joint" = true ∧ lvB n_lbeside (defScope s_lbeside) 2 "_law_joint" = true ∧ gvB (defScope s_lbeside) "_law_shifted" = true ∧ gvB (defScope s_lbeside) "len" = true ∧ gvB (defScope s_lbeside) "list" = true ∧ gvB (defScope s_lbeside) "sorted" = true ∧ gvB (defScope s_lbeside) "tuple" = true := by decide +kernel
theorem cl_lbeside {Γ : Gm} (dfn : Dfn Γ "_law_beside" s_lbeside ["_law_front", "_law_rear"]) (T : Names Γ) (c_law_shifted : Cl Γ CX0 1 "_law_shifted" (spShifted Γ.K) []) : Cl Γ CX0 (2) "_law_beside" (spLBeside Γ.K) [] := by
  refine dfn.cl sc_lbeside (fun vs H Q E h => ?_) (fun f cdv A outer s H vs Q E hg h => ?_)
  · obtain ⟨w1, w2, ks1, ks2, r1, r2, e1_, e2_, rfl, _⟩ := h
    rfl
  obtain ⟨w1, w2, ks1, ks2, r1, r2, e1_, e2_, rfl, hv1, hv2, ll1, ll2, lr1, lr2, q⟩ := h
  have nd := sc_lbeside.nd
  obtain ⟨v0, v1, v2, l2, g__law_shifted, g_len, g_list, g_sorted, g_tuple⟩ := nm_lbeside
  refine ⟨_, (pss_cons (pst (i := 2) nd l2 (pe_op (k_add hg) (pct (WC.ok hg) g_list T.n_list bt_list (pa_cons (pe_ix (WX.ok hg) (ps 0 v0) pe_int (fun _ _ => rfl)) pa_nil)) (pcl c_law_shifted hg (by omega) g__law_shifted pass0 (pa_cons (ps 1 v1) (pa_cons (pcb (k_len hg) g_len T.n_len bt_len (pa_cons (pe_ix (WX.ok hg) (ps 0 v0) pe_int (fun _ _ => rfl)) pa_nil)) pa_nil)))))
    (pss_one (ps_ret (pe_tup (pa_cons (pe_ix (WX.ok hg) (ps 0 v0) pe_int (fun _ _ => rfl)) (pa_cons (pe_op (k_add hg) (pe_ix (WX.ok hg) (ps 0 v0) pe_int (fun _ _ => rfl)) (pe_ix (WX.ok hg) (ps 1 v1) pe_int (fun _ _ => rfl))) (pa_cons (pct (WC.ok hg) g_tuple T.n_tuple bt_tuple (pa_cons (pcb (WC.ok hg) g_sorted T.n_sorted bt_sorted (pa_cons (ps 2 v2) pa_nil)) pa_nil)) pa_nil))))))), ?_⟩
  refine st_start (σ := [some _, some _, none]) rfl ?_
  walk_at "dn"
  have sqS : ∀ {H' H'' : Hp} {t : Addr} {xs : List V}, Same H' H'' → SqT Γ.K H' t xs → SqT Γ.K H'' t xs := fun s h => (Fr.of (S := []) s).sqt h List.not_mem_nil
  obtain ⟨pk, pf, pl, fts, lts, h1, h2, h3, h4, h5, h6⟩ := hv1.ex
  obtain ⟨pk2, pf2, pl2, fts2, lts2, g1, g2, g3, g4, g5, g6⟩ := hv2.ex
  refine wx_t h1 (v := .ref pl) (atG (j := 2) rfl rfl) (wc_list (.inr h5) fun a ha => ?_)
  have s1 := Same.mk (o := .lst (lts.map V.ref)) ha
  refine wx_t (sqS s1 h1) (v := .ref pf) (atG (j := 1) rfl rfl) (wc_len_t (sqS s1 h3) ?_)
  rw [List.length_map, h4.len]
  refine ⟨w2, ks2, r2, e2_, r1.length, rfl, hv2.same s1, by omega, fun D ts H2 s2 hD hts => ?_⟩
  have lts' : ts.length = e2_.length := by
    have := hts.len
    unfold mv at this
    rwa [List.length_map] at this
  refine wo_cat (s2 _ _ upd_same) hD (szl (by rw [List.length_map, List.length_map, h6.len]; omega)) fun b hb => ?_
  walk_at "dn"
  have s3 := Same.mk (o := .lst (lts.map V.ref ++ ts.map V.ref)) hb
  have s13 := (s1.trans s2).trans s3
  refine wx_t (sqS s13 h1) (v := .ref pk) (atG (j := 0) rfl rfl) (wx_t (sqS s13 h1) (v := .ref pf) (atG (j := 1) rfl rfl) (wx_t (sqS s13 g1) (v := .ref pf2) (atG (j := 1) rfl rfl) ?_))
  refine wo_catT (sqS s13 h3) (sqS s13 g3) (szl (by rw [List.length_map, List.length_map, h4.len, g4.len]; omega)) fun pc H4 s4 hpc => ?_
  have s14 := s13.trans s4
  have e1 : lts.map V.ref ++ ts.map V.ref = (lts ++ ts).map V.ref := by rw [List.map_append]
  refine wc_sortL (ts := lts ++ ts) (ls := e1_ ++ mv r1.length e2_) (by rw [← e1]; exact s4 _ _ upd_same) (lks_app (h6.same s14) (hts.same (s3.trans s4))) fun q6 ts6 hq6 k6 => ?_
  refine wc_tup (SqL.of upd_same) fun q7 hq7 => ⟨szl (by simp only [List.length_cons, List.length_nil]; omega), fun T hT => ?_⟩
  have sc := (Same.mk (o := .lst (ts6.map V.ref)) hq6).trans ((Same.mk (o := .tup (ts6.map V.ref)) hq7).trans (Same.mk (o := .tup [.ref pk, .ref pc, .ref q7]) hT))
  have sd := s14.trans sc
  refine q T _ sd ⟨pk, pc, q7, fts ++ fts2, ts6, SqT.of upd_same, sqS sd h2, ?_, ?_, SqT.of (Same.mk hT _ _ upd_same), k6.same sc⟩
  · rw [List.map_append]
    exact sqS sc hpc
  · exact (h4.same sd).app (g4.same sd)
abbrev s_lchg : Stmt := topS 34
abbrev n_lchg : List Str := ["_law_table", "_law_many", "_law_row"]
theorem sc_lchg : FnScope n_lchg ["_law_table", "_law_many"] (defScope s_lchg) := ⟨rfl, rfl, rfl, by decide +kernel, rfl, by decide +kernel, by decide +kernel⟩
theorem nm_lchg : nvB n_lchg (defScope s_lchg) 0 "_law_table" = true ∧ nvB n_lchg (defScope s_lchg) 1 "_law_many" = true ∧ nvB n_lchg (defScope s_lchg) 2 "_law_row" = true ∧ lvB n_lchg (defScope s_lchg) 2 "_law_row" = true ∧ gvB (defScope s_lchg) "range" = true := by decide +kernel
theorem cl_lchg {Γ : Gm} (dfn : Dfn Γ "_law_changed" s_lchg ["_law_table", "_law_many"]) (T : Names Γ) {C : Addr} (L : KT Γ C) (p_kinds : Pr Γ CX0 1 C "kinds" (spTKinds Γ.K C)) (m_after : Mt Γ CX0 8 C "after" (spAfter Γ.K C) []) (m_cut : Mt Γ CX0 8 C "cut" (spCut Γ.K C) []) (m_set : Mt Γ CX0 5 C "__setitem__" (spTSet Γ.K C) []) (m_get : Mt Γ CX0 5 C "__getitem__" (spTGet Γ.K C) []) (m_mark : Mt Γ CX0 5 C "mark" (spMark Γ.K C) []) (m_put0 : Mk' Γ 2 C "put" [] (spPut0 Γ.K C)) : Cl Γ CX0 (20) "_law_changed" (spLChg Γ.K C) [] := by
  refine dfn.cl sc_lchg (fun vs H Q E h => ?_) (fun f cdv A outer s H vs Q E hg h => ?_)
  · obtain ⟨A, B, rfl, _⟩ := h
    rfl
  obtain ⟨A, B, rfl, ht, hL, lr, lm, k1, q⟩ := h
  have nd := sc_lchg.nd
  obtain ⟨v0, v1, v2, l2, g_range⟩ := nm_lchg
  refine ⟨_, (C8.pss_cut (ps_for PassesOwn.never rfl (pi_r1 g_range T.n_range (pa_cons (ps 1 v1) pa_nil)) (pgn (i := 2) nd l2)
    (pss_one (ps_ifB (pt_cm (k_isnot hg) (pe_mw hg (ps 0 v0) (pa_cons (pe_ix (WX.ok hg) (pe_at (WA.ok hg) (ps 0 v0)) pe_int (fun _ _ => rfl)) (pa_cons (ps 2 v2) pa_nil))) pe_non (nomark _))
    (pss_one (ps_expr (pe_mw hg (ps 0 v0) (pa_cons (pe_ix (WX.ok hg) (pe_at (WA.ok hg) (ps 0 v0)) pe_int (fun _ _ => rfl)) (pa_cons (ps 2 v2) pa_nil)))))
    pss_nil)))
    (C8.pss_cut (ps_for PassesOwn.never rfl (pi_r1 g_range T.n_range (pa_cons (ps 1 v1) pa_nil)) (pgn (i := 2) nd l2)
    (pss_cons (ps_asg (pe_op (k_add hg) (pe_op (k_div hg) (pe_ixO (WY.ok hg) (ps 0 v0) (ps 2 v2) (fun _ _ => rfl)) pe_int) pe_int) (pg_sub (ps 0 v0) (ps 2 v2) (WP.ok hg)))
    (pss_one (ps_expr (pe_mw hg (ps 0 v0) (pa_cons (ps 2 v2) (pa_cons pe_str pa_nil)))))))
    (pss_one (ps_ret (pe_cmpR (k_eq hg) (pe_mk hg (ps 0 v0) (pa_cons pe_str pa_nil) pk_nil) (ps 1 v1) (nomark _)))))), ?_⟩
  refine st_start (σ := [some _, some _, none]) rfl ?_
  walk_at "dn"
  obtain ⟨k0, hk0⟩ : ∃ k0, B.ks[0]? = some k0 := ⟨_, List.getElem?_eq_getElem (by omega)⟩
  have frst : ∀ {B' : Tb} {H' : Hp} {R : VK}, B'.ks = B.ks → TbP Γ.K C A B' H' → R (.str k0) H' → WA (Γ.at 19) (Str.ofString "kinds") (.ref A.a) H' fun x H1 => G.WX (Γ.at 19) x (.int 0) H1 R := fun {B'} {H'} {R} e t k => by
    refine wa_prop p_kinds (E := E0) (by omega) t.ins ⟨A, B', rfl, t, ?_⟩
    exact wx_t t.so (v := .str k0) (at_nat (i := 0) (by rw [List.getElem?_map, e, hk0]; rfl)) k
  -- all links of the first kind are cut
  refine ⟨fun σ' H1 => ∃ (B' : Tb) (c2 : Option V), σ' = [some (.ref A.a), some (.int B.rows.length), c2] ∧ Fr A.fp H H1 ∧ TbP Γ.K C A B' H1 ∧ B'.rows = B.rows ∧ B'.ks = B.ks ∧ TbL B', ?_, ?_⟩
  · refine ⟨_, rfl, by omega, by omega, ?_⟩
    refine lp_range (fun i σ' H1 => ∃ (B' : Tb) (c2 : Option V), σ' = [some (.ref A.a), some (.int B.rows.length), c2] ∧ Fr A.fp H H1 ∧ TbP Γ.K C A B' H1 ∧ B'.rows = B.rows ∧ B'.ks = B.ks ∧ TbL B') ⟨B, _, rfl, Fr.refl, ht, rfl, rfl, hL⟩ ?_ (fun σ' H' h => h)
    rintro i σ' H1 hi ⟨B', c2, rfl, f1, t1, er, ek, L1⟩
    walk_at "dn"
    rw [Int.zero_add]
    obtain ⟨m, bm, ak, lI⟩ := L1.at_ (show B'.ks[0]? = some k0 by rw [ek]; exact hk0)
    refine ⟨8, C, A.a, A.dx, A.fs, spAfter Γ.K C, [], E0, ⟨m_after.ex⟩, by omega, rfl, t1.ins, by rfl, frst ek t1 ⟨A, B', k0, 0, i, m, bm, rfl, t1, ak, by rw [er]; exact hi, fun H2 s2 => ?_⟩⟩
    have t2 := t1.same s2
    cases hn : nxt m i with
    | none =>
      walk_at "di"
      exact ⟨B', _, rfl, f1.trans (Fr.of s2), t2, er, ek, L1⟩
    | some o =>
      walk_at "di"
      refine ⟨8, C, A.a, A.dx, A.fs, spCut Γ.K C, [], E0, ⟨m_cut.ex⟩, by omega, rfl, t2.ins, by rfl, frst ek t2 ⟨A, B', k0, 0, i, o, m, bm, rfl, t2, ak, lI, nxt_mem hn, fun H3 f3 t3 => ?_⟩⟩
      exact ⟨_, _, rfl, (f1.trans (Fr.of s2)).trans f3, t3, er, ek, L1.cut ak (nxt_mem hn)⟩
  rintro σ' H1 ⟨B1, c2, rfl, f1, t1, er, ek, L1⟩
  walk_at "dn"
  -- numbers, marks
  refine ⟨fun σ' H1 => ∃ (B' : Tb) (c2 : Option V), σ' = [some (.ref A.a), some (.int B.rows.length), c2] ∧ Fr A.fp H H1 ∧ TbP Γ.K C A B' H1 ∧ B'.rows.length = B.rows.length ∧ B'.ks = B.ks ∧ TbL B', ?_, ?_⟩
  · refine ⟨_, rfl, by omega, by omega, ?_⟩
    refine lp_range (fun i σ' H1 => ∃ (B' : Tb) (c2 : Option V), σ' = [some (.ref A.a), some (.int B.rows.length), c2] ∧ Fr A.fp H H1 ∧ TbP Γ.K C A B' H1 ∧ B'.rows.length = B.rows.length ∧ B'.ks = B.ks ∧ TbL B' ∧ ∀ j u, i ≤ j → B'.rows[j]? = some u → u.1.length < 50) ⟨B1, _, rfl, f1, t1, by rw [er], ek, L1, fun j u _ h => lm u (by rw [← er]; exact List.mem_of_getElem? h)⟩ ?_ (fun σ' H' ⟨B', c2, a, b, c, d, e, f, _⟩ => ⟨B', c2, a, b, c, d, e, f⟩)
    rintro i σ' H2 hi ⟨B', c2, rfl, f2, t2, er2, ek2, L2, lm2⟩
    walk_at "dn"
    rw [Int.zero_add]
    obtain ⟨u, hu⟩ : ∃ u, B'.rows[i]? = some u := ⟨_, List.getElem?_eq_getElem (by omega)⟩
    refine wy_own m_get L.gi (by show 5 + 1 ≤ 19; omega) t2.ins (E := E0) ⟨A, B', i, u, rfl, t2, hu, ?_⟩
    walk_at "di"
    refine ⟨⟨by omega, by omega⟩, wp_own (E := E0) m_set L.sq (by omega) t2.ins ⟨A, B', i, u.2 / 2 + 1, u, rfl, t2, hu, fun H3 f3 t3 => ?_⟩⟩
    have nmc : Nm (Str.ofString "changed") := ⟨by decide +kernel, by decide +kernel, by decide +kernel⟩
    have hu3 : (B'.rows.set i (u.1, u.2 / 2 + 1))[i]? = some (u.1, u.2 / 2 + 1) := by
      rw [List.getElem?_set, if_pos rfl, if_pos (by omega)]
    refine ⟨5, C, A.a, A.dx, A.fs, spMark Γ.K C, [], E0, ⟨m_mark.ex⟩, by omega, rfl, t3.ins, by rfl, A, { B' with rows := B'.rows.set i (u.1, u.2 / 2 + 1) }, i, "changed", (u.1, u.2 / 2 + 1), rfl, t3, hu3, nmc, by have := lm2 i u (Nat.le_refl _) hu; show u.1.length < 60; omega, fun zs H4 az hz f4 t4 => ?_⟩
    refine ⟨_, _, rfl, (f2.trans f3).trans f4, t4, by show ((B'.rows.set i _).set i _).length = _; rw [List.length_set, List.length_set]; exact er2, ek2, L2.rows (by show _ ≤ ((B'.rows.set i (u.1, u.2 / 2 + 1)).set i _).length; rw [List.length_set, List.length_set]; exact Nat.le_refl _), fun j x hj hx => ?_⟩
    have hx : ((B'.rows.set i (u.1, u.2 / 2 + 1)).set i (zs, u.2 / 2 + 1))[j]? = some x := hx
    rw [List.getElem?_set, if_neg (by omega), List.getElem?_set, if_neg (by omega)] at hx
    exact lm2 j x (by omega) hx
  rintro σ' H2 ⟨B2, c2, rfl, f2, t2, er2, ek2, L2⟩
  walk_at "dn"
  refine ⟨2, C, A.a, A.dx, A.fs, spPut0 Γ.K C, E0, ⟨m_put0.ex⟩, by omega, rfl, t2.ins, by rfl, rfl, A, B2, 0, [Str.ofString "changed"], rfl, rfl, t2, fun z hz => by rw [List.mem_singleton.mp hz]; exact ⟨by decide +kernel, by decide +kernel, by decide +kernel⟩, by decide, by omega, fun zs H3 az hz f3 t3 => ?_⟩
  walk_at "di"
  rw [er2]
  rw [decide_eq_true rfl]
  refine q _ H3 (f2.trans f3) t3 ?_ ek2 (L2.rows (by rw [List.length_append]; omega))
  show (B2.rows ++ [(zs, 0)]).length = _
  rw [List.length_append, List.length_singleton, er2]
/-- Table(..) of tuples or lists -/
theorem mkTG {Γ : Gm} {C x dx p r l : Addr} {c b1 b2 : Bool} {ks : List Str} {rts : List Addr} {rws : List Rw} {lts : List Addr} {ls : List Lk} {H : Hp} {Q : VK} {E : XK} (hx : H x = none) (hdx : H dx = none) (ne : dx ≠ x)
    (hp : SqB Γ.K H p (ks.map V.str) c) (nk : ∀ z ∈ ks, Nm z) (ndk : ks.Nodup) (lk : ks.length ≤ 20) (e1 : b1 = true → ∃ o, H r = some o) (e2 : b2 = true → ∃ o, H l = some o) (hr : SqB Γ.K H r (rts.map V.ref) b1) (hrw : RwG Γ.K H rts rws) (nrw : ∀ u ∈ rws, (∀ z ∈ u.1, Nm z) ∧ u.1.length < 60) (lrw : rws.length < 1000)
    (hl : SqB Γ.K H l (lts.map V.ref) b2) (hlk : LnkG Γ.K H lts ls) (lok : LksOk rws.length ks ls) (lls : ls.length < 1000)
    (k : ∀ (A : TAd) (B : Tb) H', A.a = x → Same H H' → (∀ a ∈ A.fp, H a = none) → TbP Γ.K C A B H' → RowsR B.rows rws → B.nx = B.ks.map (fun k => lkm k ls) → B.bf = B.ks.map (fun k => swp (lkm k ls)) → (∀ z, z ∈ B.ks ↔ z ∈ ks) → Q .non H') :
    spTInitG Γ.K C [.ref x, .ref p, .ref r, .ref l] (upd (upd H dx (.own x)) x (.ins C dx [])) Q E := by
  have hx2 : upd H dx (.own x) x = none := by rw [upd_ne (Ne.symm ne)]; exact hx
  have sm : Same H (upd (upd H dx (.own x)) x (.ins C dx [])) := (Same.mk hdx).trans (Same.mk hx2)
  have n0 : ∀ {a : Addr}, (∃ o, H a = some o) → a ≠ x := fun ⟨o, h⟩ z => by rw [z, hx] at h; cases h
  refine ⟨x, dx, p, r, l, c, b1, b2, ks, rts, rws, lts, ls, rfl, upd_same, hp.same sm, nk, ndk, lk, fun h => n0 (e1 h), fun h => n0 (e2 h), hr.same sm, hrw.same sm, nrw, lrw, hl.same sm, hlk.same sm, lok, lls, fun A B H' ea f new t r1 x1 b1 m => k A B H' ea (fun a o e => f a o (fun z => n0 ⟨o, e⟩ (List.mem_singleton.mp z)) (sm a o e)) (fun a ha => ?_) t r1 x1 b1 m⟩
  cases e : H a with
  | none => rfl
  | some o =>
    have h1 := new a ha
    rw [sm a o e] at h1
    cases h1
/-- .. told as a view tells -/
theorem made_lt {K : PySem.W.Frag} {C : Addr} {A : TAd} {B : Tb} {H : Hp} {ks ks' : List Str} {rws : List Rw} {ls : List Lk} (t : TbP K C A B H) (rr : RowsR B.rows rws) (ar : ∀ u ∈ rws, Asc u.1) (rx : B.nx = B.ks.map (fun k => lkm k ls)) (rb : B.bf = B.ks.map (fun k => swp (lkm k ls))) (rk : ∀ z, z ∈ B.ks ↔ z ∈ ks) (asc : Asc ks') (hk : ∀ z, z ∈ ks' ↔ z ∈ ks) (lok : LksOk rws.length ks' ls) (pw : LPw ls) (sm : ls.length < 1000) : B.ks = ks' ∧ B.rows = rws ∧ TbL B ∧ LnkT B ls := by
  have ek : B.ks = ks' := t.ka.eq asc fun z => (rk z).trans (hk z).symm
  have er : B.rows = rws := asc_rows rr t.ra ar
  have lok' : LksOk B.rows.length ks' ls := by rw [er]; exact lok
  have rk' : ∀ z, z ∈ B.ks ↔ z ∈ ks' := fun z => by rw [ek]
  have tl : TbL B := TbL.of lok' rx rb rk'
  exact ⟨ek, er, tl, LnkT.of tl t.ka.nd (RelL.of lok' rx rk') pw sm⟩
/-- a table is asked for its view -/
theorem view_go {Γ : Gm} {l : Nat} {C : Addr} {A : TAd} {B : Tb} {ls : List Lk} {H : Hp} {R : VK} (m : Mt Γ CX0 1 C "view" (spView Γ.K C) []) (hl : 1 ≤ l) (t : TbP Γ.K C A B H) (T : LnkT B ls) (lr : B.rows.length < 1000) (k : ∀ p H2, Same H H2 → VwP Γ.K H2 p B.ks B.rows ls → R (.ref p) H2) :
    ∃ (n : Nat) (C a dx : Addr) (fs : List (Str × V)) (sp : Sp) (dvs : List V) (E : XK), Mt (Γ.at l) CX0 n C "view" sp dvs ∧ n ≤ l ∧ V.ref A.a = .ref a ∧ H a = some (.ins C dx fs) ∧ fs.lookup (Str.ofString "view") = none ∧ sp (.ref A.a :: dvs) H R E :=
  ⟨1, C, A.a, A.dx, A.fs, spView Γ.K C, [], E0, ⟨m.ex⟩, hl, rfl, t.ins, by rfl, A, B, rfl, t, by omega, by have := T.small; rw [T.srt, List.length_mergeSort] at this; omega, fun p pr pl rts zs H2 s q1 q2 q3 q4 q5 q6 => k p H2 s (vw_told (t.same s) q1 q2 q3 q4 q5 (q6.trans T.srt.symm))⟩
theorem RelL.lt {B : Tb} {l1 ls : List Lk} (r : RelL B l1) (L : TbL B) (nd : B.ks.Nodup) (p : ls.Perm l1) (pw : LPw ls) (sm : ls.length < 1000) : LnkT B ls :=
  LnkT.of L nd (r.congr (p.nodup_iff.mpr r.nd) fun e => p.mem_iff.symm) pw sm
theorem RelL.perm {B : Tb} {l1 l2 : List Lk} (h1 : RelL B l1) (h2 : RelL B l2) (L : TbL B) : l1.Perm l2 := (List.perm_ext_iff_of_nodup h1.nd h2.nd).mpr (h1.uniq h2 L)
theorem mv_perm {n : Nat} {l1 l2 : List Lk} (p : l1.Perm l2) : (mv n l1).Perm (mv n l2) := p.map _
theorem cps_perm {n : Nat} {l1 l2 : List Lk} (p : l1.Perm l2) : ∀ c, (cps n l1 c).Perm (cps n l2 c)
  | 0 => .refl _
  | c + 1 => (cps_perm p c).append (mv_perm p)
theorem sort_perm (ls : List Lk) : (ls.mergeSort lkLe).Perm ls := List.mergeSort_perm _ _
theorem eqvA_len : ∀ {xs ys : List PyData}, xs.length ≠ ys.length → PyData.eqvAll xs ys = false
  | [], [], h => absurd rfl h
  | [], _ :: _, _ => by simp [PyData.eqvAll]
  | _ :: _, [], _ => by simp [PyData.eqvAll]
  | _ :: xs, _ :: ys, h => by
    have := eqvA_len (xs := xs) (ys := ys) (fun e => h (by rw [List.length_cons, List.length_cons, e]))
    simp [PyData.eqvAll, this]
theorem eqv_vw {ks ks' : List Str} {r r' : List Rw} {l l' : List Lk} (h : r.length ≠ r'.length) : PyData.eqv (vwD ks r l) (vwD ks' r' l') = false := by
  have := eqvA_len (xs := r.map rowD) (ys := r'.map rowD) (by rw [List.length_map, List.length_map]; exact h)
  simp [vwD, PyData.eqv, PyData.eqvAll, this]
theorem lok_cop : LksOk 2 [Str.ofString "d", Str.ofString "c"] [(Str.ofString "c", 0, 1)] := by
  refine ⟨fun e he => by rw [List.mem_singleton.mp he]; exact .tail _ (.head _), fun k hk => ?_⟩
  rcases List.mem_cons.mp hk with rfl | hk
  · rw [lkm_none (show Str.ofString "c" ≠ Str.ofString "d" by decide +kernel) (m := [(0, 1)]) |> fun h => (show lkm (Str.ofString "d") [(Str.ofString "c", 0, 1)] = [] from h)]
    exact LkI.nil
  · rw [List.mem_singleton.mp hk, show lkm (Str.ofString "c") [(Str.ofString "c", 0, 1)] = [(0, 1)] from lkm_one rfl]
    exact LkI.nil.link (r := 0) (o := 1) (by omega) (by omega) rfl rfl (fun z => by
      cases z with
      | step h _ => cases h)
def spRight8 : Sp := fun vs H Q _ => ∃ (b : Addr) (n : Nat), vs = [.ref b] ∧ Box b (n + 3000) H ∧ ∀ H', Fr [b] H H' → Box b n H' → Q (.bl true) H'
/-- a list of lists, two of which may change -/
def liP (li p0 p1 p2 : Addr) (L : List Addr) (N : Nat) (H : Hp) : Prop := (∀ a, a ∈ L ↔ a = li ∨ a = p0 ∨ a = p2) ∧ H li = some (.lst [.ref p0, .ref p1, .ref p2]) ∧ (∃ xs, H p0 = some (.lst xs) ∧ xs.length ≤ N) ∧ ∃ ys, H p2 = some (.lst ys) ∧ ys.length ≤ N
def liR {E : Hv} (li p0 p1 p2 : Addr) (L : List Addr) (N : Nat) : RS E := ⟨L, liP li p0 p1 p2 L N, fun H H' k ⟨hL, h1, ⟨xs, h2, h3⟩, ⟨ys, h4, h5⟩⟩ => ⟨hL, k _ _ h1 (.inl ((hL _).mpr (.inl rfl))), ⟨xs, k _ _ h2 (.inl ((hL _).mpr (.inr (.inl rfl)))), h3⟩, ⟨ys, k _ _ h4 (.inl ((hL _).mpr (.inr (.inr rfl)))), h5⟩⟩, false⟩
def anyR {E : Hv} (L : List Addr) : RS E := ⟨L, fun _ => True, fun _ _ _ _ => trivial, false⟩
def spCop (K : PySem.W.Frag) : Sp := fun vs H Q _ => vs = [] ∧ ∀ H', Same H H' → Q (.bl true) H'
abbrev s_cop : Stmt := topS 35
abbrev n_cop : List Str := ["_law_marks_so", "_law_kinds_so", "_law_links_so", "_law_facts", "_law_table", "_law_due"]
theorem sc_cop : FnScope n_cop [] (defScope s_cop) := ⟨rfl, rfl, rfl, by decide +kernel, rfl, by decide +kernel, by decide +kernel⟩
theorem nm_cop : nvB n_cop (defScope s_cop) 0 "_law_marks_so" = true ∧ nvB n_cop (defScope s_cop) 1 "_law_kinds_so" = true ∧ nvB n_cop (defScope s_cop) 2 "_law_links_so" = true ∧ nvB n_cop (defScope s_cop) 3 "_law_facts" = true ∧ nvB n_cop (defScope s_cop) 4 "_law_table" = true ∧ nvB n_cop (defScope s_cop) 5 "_law_due" = true ∧ lvB n_cop (defScope s_cop) 3 "_law_facts" = true ∧ lvB n_cop (defScope s_cop) 4 "_law_table" = true ∧ lvB n_cop (defScope s_cop) 5 "_law_due" = true ∧ gvB (defScope s_cop) "Table" = true ∧ gvB (defScope s_cop) "len" = true := by decide +kernel
theorem cl_cop {Γ : Gm} (dfn : Dfn Γ "_law_copied_right" s_cop []) (T : Names Γ) {C : Addr} (L : KT Γ C) (k_Table : Mkr Γ CX0 11 "Table" C (spTInitG Γ.K C) []) (m_view : Mt Γ CX0 1 C "view" (spView Γ.K C) []) (p_kinds : Pr Γ CX0 1 C "kinds" (spTKinds Γ.K C)) (m_after : Mt Γ CX0 8 C "after" (spAfter Γ.K C) []) (m_len : Mt Γ CX0 1 C "__len__" (spTLen Γ.K C) []) : Cl Γ CX0 (30) "_law_copied_right" (spCop Γ.K) [] := by
  refine dfn.cl sc_cop (fun vs H Q E h => ?_) (fun f cdv A outer s H vs Q E hg h => ?_)
  · obtain ⟨rfl, _⟩ := h
    rfl
  obtain ⟨rfl, q⟩ := h
  have nd := sc_cop.nd
  obtain ⟨v0, v1, v2, v3, v4, v5, l3, l4, l5, g_Table, g_len⟩ := nm_cop
  refine ⟨_, (pss_cons (ps_p3 (i := 0) (j := 1) (l := 2) rfl nd rfl rfl rfl (by decide) (by decide) (by decide) rfl rfl rfl (pa_cons (pe_lst (pa_cons pe_str pa_nil)) (pa_cons (pe_lst (pa_cons pe_str (pa_cons pe_str pa_nil))) (pa_cons (pe_lst (pa_cons (pe_lst (pa_cons pe_str (pa_cons pe_int (pa_cons pe_int pa_nil)))) pa_nil)) pa_nil))) (by rfl))
    (pss_cons (pst (i := 3) nd l3 (pe_lst (pa_cons (pe_lst (pa_cons (ps 0 v0) (pa_cons pe_int pa_nil))) (pa_cons (pe_lst (pa_cons (pe_lst pa_nil) (pa_cons pe_int pa_nil))) pa_nil))))
    (C8.pss_cut (pst (i := 4) nd l4 (pmk k_Table hg (by omega) g_Table pass0 (pa_cons (ps 1 v1) (pa_cons (ps 3 v3) (pa_cons (ps 2 v2) pa_nil)))))
    (pss_cons (ps_expr (pe_bmK hg PySem.F.plainAttrs_list PySem.F.slot_list_append PySem.F.type_list_append mt_append (ps 0 v0) (pa_cons pe_str pa_nil)))
    (pss_cons (ps_expr (pe_bmK hg PySem.F.plainAttrs_list PySem.F.slot_list_append PySem.F.type_list_append mt_append (ps 1 v1) (pa_cons pe_str pa_nil)))
    (pss_cons (ps_asg pe_int (pg_sub (pe_ix (WX.ok hg) (ps 3 v3) pe_int (fun _ _ => rfl)) pe_int (WP.ok hg)))
    (pss_cons (ps_expr (pe_bmK hg PySem.F.plainAttrs_list PySem.F.slot_list_append PySem.F.type_list_append mt_append (ps 3 v3) (pa_cons (pe_lst (pa_cons (pe_lst pa_nil) (pa_cons pe_int pa_nil))) pa_nil)))
    (pss_cons (ps_asg pe_int (pg_sub (pe_ix (WX.ok hg) (ps 2 v2) pe_int (fun _ _ => rfl)) pe_int (WP.ok hg)))
    (pss_cons (ps_expr (pe_bmK hg PySem.F.plainAttrs_list PySem.F.slot_list_append PySem.F.type_list_append mt_append (ps 2 v2) (pa_cons (pe_lst (pa_cons pe_str (pa_cons pe_int (pa_cons pe_int pa_nil)))) pa_nil)))
    (pss_cons (pst (i := 5) nd l5 (pe_tup (pa_cons (pe_tup (pa_cons pe_str (pa_cons pe_str pa_nil))) (pa_cons (pe_tup (pa_cons (pe_tup (pa_cons (pe_tup (pa_cons pe_str pa_nil)) (pa_cons pe_int pa_nil))) (pa_cons (pe_tup (pa_cons (pe_tup pa_nil) (pa_cons pe_int pa_nil))) pa_nil))) (pa_cons (pe_tup (pa_cons (pe_tup (pa_cons pe_str (pa_cons pe_int (pa_cons pe_int pa_nil)))) pa_nil)) pa_nil)))))
    (pss_one (ps_ret (pe_and2 hg (pe_cmpR (k_eq hg) (pe_mw0 hg (ps 4 v4)) (ps 5 v5) (nomark _)) (pe_and2 hg (pe_cmpR (k_eq hg) (pe_at (WA.ok hg) (ps 4 v4)) (pe_tup (pa_cons pe_str (pa_cons pe_str pa_nil))) (nomark _)) (pe_and2 hg (pe_cmpR (k_eq hg) (pcb (k_len hg) g_len T.n_len bt_len (pa_cons (ps 4 v4) pa_nil)) pe_int (nomark _)) (pe_one (pe_cmpR (k_is hg) (pe_mw hg (ps 4 v4) (pa_cons pe_str (pa_cons pe_int pa_nil))) pe_non (nomark _)))))))))))))))))), ?_⟩
  refine st_start (σ := [none, none, none, none, none, none]) rfl ?_
  walk_at "dn"
  have sz : ∀ {a b c d : V}, [a].length ≤ sizeLine ∧ [a, b].length ≤ sizeLine ∧ [a, b, c].length ≤ sizeLine ∧ ([] : List V).length ≤ sizeLine := ⟨szl (by simp only [List.length_cons, List.length_nil]; omega), szl (by simp only [List.length_cons, List.length_nil]; omega), szl (by simp only [List.length_cons, List.length_nil]; omega), szl (by simp only [List.length_nil]; omega)⟩
  refine ⟨szl (by simp only [List.length_cons, List.length_nil]; omega), fun p0 h0 => ⟨szl (by simp only [List.length_cons, List.length_nil]; omega), fun p1 h1 => ⟨szl (by simp only [List.length_cons, List.length_nil]; omega), fun p2 h2 => ⟨szl (by simp only [List.length_cons, List.length_nil]; omega), fun p3 h3 => ⟨szl (by simp only [List.length_cons, List.length_nil]; omega), fun p4 h4 => ⟨szl (by simp only [List.length_nil]; omega), fun p5 h5 => ⟨szl (by simp only [List.length_cons, List.length_nil]; omega), fun p6 h6 => ⟨szl (by simp only [List.length_cons, List.length_nil]; omega), fun p7 h7 => ?_⟩⟩⟩⟩⟩⟩⟩⟩
  have s7 := ((((((((SS.start0 (E := E1 Γ) (H := H)).newC (o := .lst [.str "m"]) h0 (fun z => z)).newC (o := .lst [.str "d", .str "c"]) h1 (fun z => z)).newC (o := .lst [.str "c", .int 0, .int 1]) h2 (fun z => z)).newC (o := .lst [.ref p2]) h3 (fun z => z)).newC (o := .lst [.ref p0, .int 5]) h4 (fun z => z)).newC (o := .lst []) h5 (fun z => z)).newC (o := .lst [.ref p5, .int 7]) h6 (fun z => z)).newC (o := .lst [.ref p4, .ref p6]) h7 (fun z => z)
  refine ⟨fun σ' H1 => ∃ (A : TAd) (B : Tb), σ' = [some (.ref p0), some (.ref p1), some (.ref p3), some (.ref p7), some (.ref A.a), none] ∧ SS (E1 Γ) H [] H1 [] [tbR C A B, lstR p7 [.ref p4, .ref p6], lstR p6 [.ref p5, .int 7], lstR p5 [], lstR p4 [.ref p0, .int 5], lstR p3 [.ref p2], lstR p2 [.str "c", .int 0, .int 1], lstR p1 [.str "d", .str "c"], lstR p0 [.str "m"]] ∧ B.ks = [Str.ofString "c", Str.ofString "d"] ∧ B.rows = [([Str.ofString "m"], 5), ([], 7)] ∧ TbL B ∧ LnkT B [(Str.ofString "c", 0, 1)], ?_, ?_⟩
  · intro x dx hx hdx ne
    have c7 := s7.cell (p := p7) (o := .lst [.ref p4, .ref p6]) (b := false) (.head _)
    have c6 := s7.cell (p := p6) (o := .lst [.ref p5, .int 7]) (b := false) (.tail _ (.head _))
    have c5 := s7.cell (p := p5) (o := .lst []) (b := false) (.tail _ (.tail _ (.head _)))
    have c4 := s7.cell (p := p4) (o := .lst [.ref p0, .int 5]) (b := false) (.tail _ (.tail _ (.tail _ (.head _))))
    have c3 := s7.cell (p := p3) (o := .lst [.ref p2]) (b := false) (.tail _ (.tail _ (.tail _ (.tail _ (.head _)))))
    have c2 := s7.cell (p := p2) (o := .lst [.str "c", .int 0, .int 1]) (b := false) (.tail _ (.tail _ (.tail _ (.tail _ (.tail _ (.head _))))))
    have c1 := s7.cell (p := p1) (o := .lst [.str "d", .str "c"]) (b := false) (.tail _ (.tail _ (.tail _ (.tail _ (.tail _ (.tail _ (.head _)))))))
    have c0 := s7.cell (p := p0) (o := .lst [.str "m"]) (b := false) (.tail _ (.tail _ (.tail _ (.tail _ (.tail _ (.tail _ (.tail _ (.head _))))))))
    have nmd : Nm (Str.ofString "d") := ⟨by decide +kernel, by decide +kernel, by decide +kernel⟩
    have nmc : Nm (Str.ofString "c") := ⟨by decide +kernel, by decide +kernel, by decide +kernel⟩
    refine mkTG (c := true) (b1 := true) (b2 := true) (ks := [Str.ofString "d", Str.ofString "c"]) (rts := [p4, p6]) (rws := [([Str.ofString "m"], 5), ([], 7)]) (lts := [p2]) (ls := [(Str.ofString "c", 0, 1)]) hx hdx ne (SqL.of (c1)) (fun z hz => ?_) (by decide +kernel) (by decide) (fun _ => ⟨_, c7⟩) (fun _ => ⟨_, c3⟩) (SqL.of (c7)) ⟨rfl, fun i t r a b => ?_⟩ (fun u hu => ?_) (by decide) (SqL.of (c3)) ⟨rfl, fun i t e a b => ?_⟩ lok_cop (by decide) fun A B H' ea s8 new t8 rr rx rb rk => ⟨rfl, ?_⟩
    · rcases List.mem_cons.mp hz with rfl | hz
      · exact nmd
      · rw [List.mem_singleton.mp hz]; exact nmc
    · match i, a, b with
      | 0, a, b =>
        cases a
        cases b
        exact ⟨p0, .inr (SqL.of (c4)), .inr (SqL.of (c0))⟩
      | 1, a, b =>
        cases a
        cases b
        exact ⟨p5, .inr (SqL.of (c6)), .inr (SqL.of (c5))⟩
      | n + 2, a, b => simp at a
    · rcases List.mem_cons.mp hu with rfl | hu
      · exact ⟨fun z hz => by rw [List.mem_singleton.mp hz]; exact nm_m, by decide⟩
      · rw [List.mem_singleton.mp hu]; exact ⟨(fun _ h => nomatch h), by decide⟩
    · match i, a, b with
      | 0, a, b =>
        cases a
        cases b
        exact .inr (SqL.of (c2))
      | n + 1, a, b => simp at a
    · subst ea
      have asc : Asc [Str.ofString "c", Str.ofString "d"] := ⟨sorted_pw (by decide +kernel), by decide +kernel, by decide +kernel⟩
      have asm_ : Asc [Str.ofString "m"] := ⟨List.pairwise_singleton _ _, List.nodup_cons.mpr ⟨List.not_mem_nil, .nil⟩, fun z hz => by rw [List.mem_singleton.mp hz]; exact nm_m.ok⟩
      have ase : Asc ([] : List Str) := ⟨.nil, .nil, (fun _ h => nomatch h)⟩
      have hk : ∀ z, z ∈ [Str.ofString "c", Str.ofString "d"] ↔ z ∈ [Str.ofString "d", Str.ofString "c"] := fun z => by simp [or_comm]
      have lok : LksOk 2 [Str.ofString "c", Str.ofString "d"] [(Str.ofString "c", 0, 1)] := ⟨fun e he => (hk _).mpr (lok_cop.k e he), fun k hk' => lok_cop.i k ((hk k).mp hk')⟩
      obtain ⟨m1, m2, m3, m4⟩ := made_lt (ks := [Str.ofString "d", Str.ofString "c"]) (rws := [([Str.ofString "m"], 5), ([], 7)]) t8 rr (fun u hu => by
        rcases List.mem_cons.mp hu with rfl | hu
        · exact asm_
        · rw [List.mem_singleton.mp hu]; exact ase) rx rb rk asc hk lok (List.pairwise_singleton _ _) (by decide)
      exact ⟨A, B, rfl, s7.newR (tbR C A B) s8 t8 t8.nd new t8.cells, m1, m2, m3, m4⟩
  clear s7 sz
  rintro σ' H1 ⟨A, B, rfl, s1, ek, er, hL, hT⟩
  walk_at "dn"
  refine ⟨ty_l (SqL.of (s1.cell (p := p0) (o := .lst [.str "m"]) (b := false) (.tail _ (.tail _ (.tail _ (.tail _ (.tail _ (.tail _ (.tail _ (.tail _ (.head _))))))))))), ap_ss s1 (.next (.next (.next (.next (.next (.next (.next (.next .here)))))))) (by decide) fun H2 s2 => ?_⟩
  refine ⟨ty_l (SqL.of (s2.cell (p := p1) (o := .lst [.str "d", .str "c"]) (b := false) (.tail _ (.tail _ (.tail _ (.tail _ (.tail _ (.tail _ (.tail _ (.head _)))))))))), ap_ss s2 (.next (.next (.next (.next (.next (.next (.next .here))))))) (by decide) fun H3 s3 => ?_⟩
  refine wx_l (SqL.of (s3.cell (p := p7) (o := .lst [.ref p4, .ref p6]) (b := false) (.tail _ (.head _)))) (v := .ref p4) (at_nat (i := 0) rfl) ?_
  refine wp_ss (j := 1) (xs := [.ref p0, .int 5]) (l := p4) s3 (v := .int 9) (.next (.next (.next (.next .here)))) (ixN_n (by show 1 < 2; decide)) fun H4 s4 => ?_
  refine ⟨ty_l (SqL.of (s4.cell (p := p7) (o := .lst [.ref p4, .ref p6]) (b := false) (.tail _ (.head _)))), szl (by simp only [List.length_nil]; omega), fun a1 g1 => ⟨szl (by simp only [List.length_cons, List.length_nil]; omega), fun a2 g2 => ?_⟩⟩
  refine ap_ss (s4.same ((Same.mk (o := .lst []) g1).trans (Same.mk (o := .lst [.ref a1, .int 1]) g2))) (.next .here) (lt_size (by simp only [List.length_cons, List.length_nil]; omega)) fun H5 s5 => ?_
  refine wx_l (SqL.of (s5.cell (p := p3) (o := .lst [.ref p2]) (b := false) (.tail _ (.tail _ (.tail _ (.tail _ (.tail _ (.head _)))))))) (v := .ref p2) (at_nat (i := 0) rfl) ?_
  refine wp_ss (j := 2) (xs := [.str "c", .int 0, .int 1]) (l := p2) s5 (v := .int 0) (.next (.next (.next (.next (.next (.next .here)))))) (ixN_n (by show 2 < 3; decide)) fun H6 s6 => ?_
  refine ⟨ty_l (SqL.of (s6.cell (p := p3) (o := .lst [.ref p2]) (b := false) (.tail _ (.tail _ (.tail _ (.tail _ (.tail _ (.head _)))))))), szl (by simp only [List.length_cons, List.length_nil]; omega), fun a3 g3 => ?_⟩
  refine ap_ss (s6.same (Same.mk (o := .lst [.str "d", .int 0, .int 1]) g3)) (.next (.next (.next (.next (.next .here))))) (lt_size (by simp only [List.length_cons, List.length_nil]; omega)) fun H7 s7 => ?_
  refine ⟨szl (by simp only [List.length_cons, List.length_nil]; omega), fun e0 ke0 => ⟨szl (by simp only [List.length_cons, List.length_nil]; omega), fun e1 ke1 => ⟨szl (by simp only [List.length_cons, List.length_nil]; omega), fun e2 ke2 => ⟨szl (by simp only [List.length_nil]; omega), fun e3 ke3 => ⟨szl (by simp only [List.length_cons, List.length_nil]; omega), fun e4 ke4 => ⟨szl (by simp only [List.length_cons, List.length_nil]; omega), fun e5 ke5 => ⟨szl (by simp only [List.length_cons, List.length_nil]; omega), fun e6 ke6 => ⟨szl (by simp only [List.length_cons, List.length_nil]; omega), fun e7 ke7 => ⟨szl (by simp only [List.length_cons, List.length_nil]; omega), fun e8 ke8 => ?_⟩⟩⟩⟩⟩⟩⟩⟩⟩
  have s8 := (((((((((s7.newT (xs := [.str "c", .str "d"]) ke0).newT (xs := [.str "m"]) ke1).newT (xs := [.ref e1, .int 5]) ke2).newT (xs := []) ke3).newT (xs := [.ref e3, .int 7]) ke4).newT (xs := [.ref e2, .ref e4]) ke5).newT (xs := [.str "c", .int 0, .int 1]) ke6).newT (xs := [.ref e6]) ke7).newT (xs := [.ref e0, .ref e5, .ref e7]) ke8)
  have qe0 := s8.tup (p := e0) (xs := [.str "c", .str "d"]) (.tail _ (.tail _ (.tail _ (.tail _ (.tail _ (.tail _ (.tail _ (.tail _ (.head _)))))))))
  have qe1 := s8.tup (p := e1) (xs := [.str "m"]) (.tail _ (.tail _ (.tail _ (.tail _ (.tail _ (.tail _ (.tail _ (.head _))))))))
  have qe2 := s8.tup (p := e2) (xs := [.ref e1, .int 5]) (.tail _ (.tail _ (.tail _ (.tail _ (.tail _ (.tail _ (.head _)))))))
  have qe3 := s8.tup (p := e3) (xs := []) (.tail _ (.tail _ (.tail _ (.tail _ (.tail _ (.head _))))))
  have qe4 := s8.tup (p := e4) (xs := [.ref e3, .int 7]) (.tail _ (.tail _ (.tail _ (.tail _ (.head _)))))
  have qe5 := s8.tup (p := e5) (xs := [.ref e2, .ref e4]) (.tail _ (.tail _ (.tail _ (.head _))))
  have qe6 := s8.tup (p := e6) (xs := [.str "c", .int 0, .int 1]) (.tail _ (.tail _ (.head _)))
  have qe7 := s8.tup (p := e7) (xs := [.ref e6]) (.tail _ (.head _))
  have qe8 := s8.tup (p := e8) (xs := [.ref e0, .ref e5, .ref e7]) (.head _)
  have due : VwP Γ.K _ e8 [Str.ofString "c", Str.ofString "d"] [([Str.ofString "m"], 5), ([], 7)] [(Str.ofString "c", 0, 1)] := ⟨e0, e5, e7, [e2, e4], [e6], qe8, qe0, qe5, ⟨rfl, fun i t r a b => by
    match i, a, b with
    | 0, a, b =>
      cases a
      cases b
      exact ⟨e1, qe2, qe1⟩
    | 1, a, b =>
      cases a
      cases b
      exact ⟨e3, qe4, qe3⟩
    | n + 2, a, b => simp at a⟩, qe7, ⟨rfl, fun i t e a b => by
    match i, a, b with
    | 0, a, b =>
      cases a
      cases b
      exact qe6
    | n + 1, a, b => simp at a⟩⟩
  have t8 : TbP Γ.K C A B _ := s8.tb (.head _)
  refine view_go m_view (by omega) t8 hT (by rw [er]; decide) fun p H9 s9 hv => ?_
  rw [ek, er] at hv
  walk_at "di"
  refine wo_eqS1 hv.dp (due.same s9).dp (shaped_of (by
    simp only [vwD, rowD, lkD, List.map_cons, List.map_nil, PyData.canLay0, PyData.canLayAll0]
    decide +kernel) (by simp [vwD, rowD, lkD, PyData.depth, PyData.depthAll])) ?_
  walk_at "di"
  have t9 := t8.same s9
  refine wa_prop p_kinds (E := E0) (by omega) t9.ins ⟨A, B, rfl, t9, ?_⟩
  refine ⟨szl (by simp only [List.length_cons, List.length_nil]; omega), fun f1 g4 => ?_⟩
  have t10 := t9.same (Same.mk (o := .tup [.str "c", .str "d"]) g4)
  have so := t10.so
  rw [ek] at so
  refine wo_eqS1 (d := .tuple ([Str.ofString "c", Str.ofString "d"].map PyData.str)) (.tup so (dp_strs _)) (.tup (xs := [Str.ofString "c", Str.ofString "d"].map V.str) (SqT.of upd_same) (dp_strs _)) (shaped_strT (by decide +kernel)) ?_
  walk_at "di"
  have lr2 : B.rows.length = 2 := by rw [er]; rfl
  refine wc_lenO (E := E0) m_len (by show 1 + 1 ≤ 29; omega) t10.ins ⟨A, B, rfl, t10, _, rfl, by omega, by omega, ?_⟩
  walk_at "di"
  refine br_t (by rw [lr2]; rfl) ?_
  obtain ⟨m, bm, ak, lI⟩ := hL.at_ (show B.ks[1]? = some (Str.ofString "d") by rw [ek]; rfl)
  refine ⟨8, C, A.a, A.dx, A.fs, spAfter Γ.K C, [], E0, ⟨m_after.ex⟩, by omega, rfl, t10.ins, by rfl, A, B, Str.ofString "d", 1, 0, m, bm, rfl, t10, ak, by omega, fun H11 s11 => ?_⟩
  have n0 : nxt m 0 = none := nxt_none.mpr fun o h => by
    have := (hT.rel.m 1 _ m ak.k ak.x 0 o).mp h
    rw [List.mem_singleton] at this
    have e := congrArg (·.1) this
    exact absurd (show Str.ofString "d" = Str.ofString "c" from e) (by decide +kernel)
  rw [n0]
  exact q _ ((s8.fr.same.trans s9).trans ((Same.mk g4).trans s11))
/-- what is known of a table that tells these -/
def TvP (B : Tb) (ks : List Str) (r : List Rw) (l : List Lk) : Prop := B.ks = ks ∧ B.rows = r ∧ TbL B ∧ LnkT B l
theorem TvP.all {B : Tb} {ks : List Str} {r : List Rw} {l : List Lk} (f : TvP B ks r l) : (lksAll B.ks B.nx).length = l.length := by
  have := f.2.2.2.srt
  rw [this, List.length_mergeSort]
theorem bes_go {Γ : Gm} {C : Addr} {A A' : TAd} {B B' : Tb} {H : Hp} {ks : List Str} {r r' : List Rw} {l l' : List Lk} {R : VK} {E : XK} (t : TbP Γ.K C A B H) (t' : TbP Γ.K C A' B' H) (f : TvP B ks r l) (f' : TvP B' ks r' l') (nk : ∀ k ∈ ks, Nm k) (lk : ks.length ≤ 20) (lr : r.length < 300) (lr' : r'.length < 300) (hu : ∀ u ∈ r ++ r', (∀ z ∈ u.1, Nm z) ∧ u.1.length < 60) (ha : ∀ u ∈ r ++ r', Asc u.1) (ll : l.length < 300) (ll' : l'.length < 300)
    (k : ∀ A3 B3 H', Same H H' → (∀ a ∈ A3.fp, H a = none) → TbP Γ.K C A3 B3 H' → TvP B3 ks (r ++ r') ((l ++ mv r.length l').mergeSort lkLe) → R (.ref A3.a) H') : spBeside Γ.K C [.ref A.a, .ref A'.a] H R E := by
  have e1 := f.all
  have e2 := f'.all
  obtain ⟨rfl, rfl, fL, fT⟩ := f
  obtain ⟨ek, rfl, fL', fT'⟩ := f'
  refine ⟨A, A', B, B', rfl, t, t', fL, fL', ek.symm, nk, lk, by omega, by omega, hu, by omega, by omega, fun A3 B3 l1 l2 H' s new t3 rr r1 r2 _ _ r3 L3 ek3 => k A3 B3 H' s new t3 ⟨ek3, asc_rows rr t3.ra ha, L3, r3.lt L3 t3.ka.nd ?_ (lpw_sort _) ?_⟩⟩
  · exact (sort_perm _).trans ((fT.rel.perm r1 fL).append (mv_perm (fT'.rel.perm r2 fL')))
  · rw [List.length_mergeSort, List.length_append]
    unfold mv
    rw [List.length_map]
    omega
theorem cpd_go {Γ : Gm} {C : Addr} {A : TAd} {B : Tb} {H : Hp} {ks : List Str} {r : List Rw} {l : List Lk} {R : VK} {E : XK} (t : TbP Γ.K C A B H) (f : TvP B ks r l) (nk : ∀ k ∈ ks, Nm k) (lk : ks.length ≤ 20) (lr : r.length < 100) (hu : ∀ u ∈ r, (∀ z ∈ u.1, Nm z) ∧ u.1.length < 60) (ha : ∀ u ∈ r, Asc u.1) (ll : l.length < 100) (pw : LPw l)
    (k : ∀ A3 B3 H', Same H H' → (∀ a ∈ A3.fp, H a = none) → TbP Γ.K C A3 B3 H' → TvP B3 ks r l → R (.ref A3.a) H') : spCopied Γ.K C [.ref A.a] H R E := by
  have e1 := f.all
  obtain ⟨rfl, rfl, fL, fT⟩ := f
  refine ⟨A, B, rfl, t, fL, nk, lk, lr, hu, by omega, fun A3 B3 l1 H' s new t3 rr r1 r3 L3 ek3 => k A3 B3 H' s new t3 ⟨ek3, asc_rows rr t3.ra ha, L3, r3.lt L3 t3.ka.nd (fT.rel.perm r1 fL) pw (by omega)⟩⟩
theorem cps_go {Γ : Gm} {C : Addr} {A : TAd} {B : Tb} {H : Hp} {ks : List Str} {r : List Rw} {l : List Lk} {R : VK} {E : XK} {c : Nat} (t : TbP Γ.K C A B H) (f : TvP B ks r l) (nk : ∀ k ∈ ks, Nm k) (lk : ks.length ≤ 20) (lr : r.length < 100) (hc : c ≤ 5) (hu : ∀ u ∈ r, (∀ z ∈ u.1, Nm z) ∧ u.1.length < 60) (ha : ∀ u ∈ r, Asc u.1) (ll : l.length < 100)
    (k : ∀ A3 B3 H', Same H H' → (∀ a ∈ A3.fp, H a = none) → TbP Γ.K C A3 B3 H' → (∀ dl : List Lk, dl.Perm (cps r.length l c) → LPw dl → TvP B3 ks (rep r c) dl) → R (.ref A3.a) H') : spCopies Γ.K C [.ref A.a, .int c] H R E := by
  have e1 := f.all
  obtain ⟨rfl, rfl, fL, fT⟩ := f
  refine ⟨A, B, c, rfl, t, fL, nk, lk, lr, hc, hu, by omega, fun A3 B3 l1 H' s new t3 rr r1 _ r3 L3 ek3 => k A3 B3 H' s new t3 fun dl hp pw => ⟨ek3, asc_rows rr t3.ra fun u hu => ha u (rep_mem hu), L3, r3.lt L3 t3.ka.nd (hp.trans (cps_perm (fT.rel.perm r1 fL) c)) pw ?_⟩⟩
  rw [hp.length_eq, cps_len]
  have : l.length * c ≤ 99 * 5 := Nat.mul_le_mul (by omega) hc
  omega
theorem lksAll_le3 {n : Nat} : ∀ {ks : List Str} {nx : List Mp}, (∀ m ∈ nx, m.length ≤ n) → (lksAll ks nx).length ≤ ks.length * n
  | [], _, _ => by show (0 : Nat) ≤ _; omega
  | _ :: _, [], _ => by show (0 : Nat) ≤ _; omega
  | k :: ks, m :: nx, h => by
    show (lksOf k m ++ lksAll ks nx).length ≤ (ks.length + 1) * n
    have h1 := lksAll_le3 (ks := ks) (nx := nx) fun m hm => h m (.tail _ hm)
    have h2 := h m (.head _)
    rw [List.length_append]
    unfold lksOf
    rw [List.length_map, Nat.add_mul, Nat.one_mul]
    omega
theorem tv_go {Γ : Gm} {l : Nat} {C : Addr} {A : TAd} {B : Tb} {ks : List Str} {r : List Rw} {ls : List Lk} {H : Hp} {R : VK} (m : Mt Γ CX0 1 C "view" (spView Γ.K C) []) (hl : 1 ≤ l) (t : TbP Γ.K C A B H) (f : TvP B ks r ls) (lr : r.length < 1000) (k : ∀ p H2, Same H H2 → VwP Γ.K H2 p ks r ls → R (.ref p) H2) :
    ∃ (n : Nat) (C a dx : Addr) (fs : List (Str × V)) (sp : Sp) (dvs : List V) (E : XK), Mt (Γ.at l) CX0 n C "view" sp dvs ∧ n ≤ l ∧ V.ref A.a = .ref a ∧ H a = some (.ins C dx fs) ∧ fs.lookup (Str.ofString "view") = none ∧ sp (.ref A.a :: dvs) H R E := by
  obtain ⟨rfl, rfl, fL, fT⟩ := f
  exact view_go m hl t fT lr k
theorem TvP.sh {B : Tb} {ks : List Str} {r : List Rw} {l : List Lk} (f : TvP B ks r l) (nk : ∀ k ∈ ks, Nm k) (nr : ∀ u ∈ r, ∀ k ∈ u.1, PyData.strOk k = true) : SeqAt.shaped (vwD ks r l) = true := by
  obtain ⟨rfl, rfl, fL, fT⟩ := f
  exact shaped_vw (fun k hk => (nk k hk).ok) nr fun e he => (nk _ (fT.ok.k e he)).ok
theorem TbL.tv {B : Tb} (L : TbL B) (nd : B.ks.Nodup) (hk : B.ks.length ≤ 20) (hr : B.rows.length ≤ 40) : TvP B B.ks B.rows ((lksAll B.ks B.nx).mergeSort lkLe) := by
  refine ⟨rfl, rfl, L, LnkT.of L nd (view_ok L nd).2 (lpw_sort _) ?_⟩
  rw [List.length_mergeSort]
  have h := lksAll_le3 (n := B.rows.length) (ks := B.ks) (nx := B.nx) fun m hm => by
    obtain ⟨i, hi⟩ := List.mem_iff_getElem?.mp hm
    obtain ⟨b, hb⟩ : ∃ b, B.bf[i]? = some b := ⟨_, List.getElem?_eq_getElem (by have := (List.getElem?_eq_some_iff.mp hi).1; have := L.ln; have := L.lb; omega)⟩
    exact (LkI.len (L.ok i m b hi hb)).1
  have : B.ks.length * B.rows.length ≤ 20 * 40 := Nat.mul_le_mul hk hr
  omega
theorem mk1_go {Γ : Gm} {C d1 d2 p : Addr} {zs : List Str} {H : Hp} {R : Addr → Hp → Prop} (hd1 : ∀ {H : Hp}, SqT Γ.K H d1 []) (hd2 : ∀ {H : Hp}, SqT Γ.K H d2 []) (hp : SqL Γ.K H p (zs.map V.str)) (nz : ∀ z ∈ zs, Nm z) (nd : zs.Nodup) (lz : zs.length ≤ 20)
    (k : ∀ A B H2, Same H H2 → (∀ a ∈ A.fp, H a = none) → TbP Γ.K C A B H2 → (∀ z, z ∈ B.ks ↔ z ∈ zs) → (∀ ks', Asc ks' → (∀ z, z ∈ ks' ↔ z ∈ zs) → TvP B ks' [] []) → R A.a H2) :
    ∀ x dx, H x = none → H dx = none → dx ≠ x → spTInitG Γ.K C [.ref x, .ref p, .ref d1, .ref d2] (upd (upd H dx (.own x)) x (.ins C dx [])) (fun v H2 => v = .non ∧ R x H2) E0 := fun x dx hx hdx ne => by
  have lok : ∀ zs : List Str, LksOk ([] : List Rw).length zs [] := fun zs => ⟨(fun _ h => nomatch h), fun k _ => LkI.nil⟩
  refine mkTG (c := true) (b1 := false) (b2 := false) (ks := zs) (rts := []) (rws := []) (lts := []) (ls := []) hx hdx ne hp nz nd lz (fun h => nomatch h) (fun h => nomatch h) hd1 ⟨rfl, fun i t r a => by simp at a⟩ (fun _ h => nomatch h) (by decide) hd2 ⟨rfl, fun i t r a => by simp at a⟩ (lok zs) (by decide) fun A B H2 ea s new t rr rx rb rk => ⟨rfl, ?_⟩
  subst ea
  exact k A B H2 s new t rk fun ks' asc hk => made_lt t rr (fun _ h => nomatch h) rx rb rk asc hk (lok ks') .nil (by decide)
abbrev s_right2 : Stmt := topS 36
abbrev n_right2 : List Str := ["_law_box_here", "_law_kinds_so", "_law_names_so", "_law_one", "_law_two", "_law_lists_here", "_law_front", "_law_rear", "_law_joint", "_law_other", "_law_mate", "_law_many", "_law_heap", "_law_due", "_law_turn", "_law_strange", "_law_wide", "_law_few", "_law_empty", "_law_own"]
theorem sc_right2 : FnScope n_right2 ["_law_box_here"] (defScope s_right2) := ⟨rfl, rfl, rfl, by decide +kernel, rfl, by decide +kernel, by decide +kernel⟩
theorem nm_right2 : nvB n_right2 (defScope s_right2) 0 "_law_box_here" = true ∧ nvB n_right2 (defScope s_right2) 1 "_law_kinds_so" = true ∧ nvB n_right2 (defScope s_right2) 2 "_law_names_so" = true ∧ nvB n_right2 (defScope s_right2) 3 "_law_one" = true ∧ nvB n_right2 (defScope s_right2) 4 "_law_two" = true ∧ nvB n_right2 (defScope s_right2) 5 "_law_lists_here" = true ∧ nvB n_right2 (defScope s_right2) 6 "_law_front" = true ∧ nvB n_right2 (defScope s_right2) 7 "_law_rear" = true ∧ nvB n_right2 (defScope s_right2) 8 "_law_joint" = true ∧ nvB n_right2 (defScope s_right2) 9 "_law_other" = true ∧ nvB n_right2 (defScope s_right2) 10 "_law_mate" = true ∧ nvB n_right2 (defScope s_right2) 11 "_law_many" = true ∧ nvB n_right2 (defScope s_right2) 12 "_law_heap" = true ∧ nvB n_right2 (defScope s_right2) 13 "_law_due" = true ∧ nvB n_right2 (defScope s_right2) 15 "_law_strange" = true ∧ nvB n_right2 (defScope s_right2) 16 "_law_wide" = true ∧ nvB n_right2 (defScope s_right2) 17 "_law_few" = true ∧ nvB n_right2 (defScope s_right2) 18 "_law_empty" = true ∧ lvB n_right2 (defScope s_right2) 1 "_law_kinds_so" = true ∧ lvB n_right2 (defScope s_right2) 2 "_law_names_so" = true ∧ lvB n_right2 (defScope s_right2) 5 "_law_lists_here" = true ∧ lvB n_right2 (defScope s_right2) 11 "_law_many" = true ∧ lvB n_right2 (defScope s_right2) 13 "_law_due" = true ∧ lvB n_right2 (defScope s_right2) 14 "_law_turn" = true ∧ lvB n_right2 (defScope s_right2) 18 "_law_empty" = true ∧ gvB (defScope s_right2) "Table" = true ∧ gvB (defScope s_right2) "_law_beside" = true ∧ gvB (defScope s_right2) "_law_changed" = true ∧ gvB (defScope s_right2) "_law_lists" = true ∧ gvB (defScope s_right2) "_law_names" = true ∧ gvB (defScope s_right2) "_law_take" = true ∧ gvB (defScope s_right2) "_law_unlike" = true ∧ gvB (defScope s_right2) "_law_view" = true ∧ gvB (defScope s_right2) "beside" = true ∧ gvB (defScope s_right2) "copies" = true ∧ gvB (defScope s_right2) "isinstance" = true ∧ gvB (defScope s_right2) "len" = true ∧ gvB (defScope s_right2) "range" = true ∧ gvB (defScope s_right2) "tuple" = true := by decide +kernel
theorem cl_right2 {Γ : Gm} (dfn : Dfn Γ "_law_right" s_right2 ["_law_box_here"]) (T : Names Γ) {C d1 d2 : Addr} (L : KT Γ C) (hd1 : ∀ {H : Hp}, SqT Γ.K H d1 []) (hd2 : ∀ {H : Hp}, SqT Γ.K H d2 []) (k_Table : Mkr Γ CX0 11 "Table" C (spTInitG Γ.K C) []) (k_Table_1 : Mkr Γ CX0 11 "Table" C (spTInitG Γ.K C) [.ref d1, .ref d2]) (k_Table_links_rows : Mkrk Γ CX0 11 "Table" C (spTInitG Γ.K C) 1 ["links", "rows"] gV2) (c_law_take : Cl Γ CX0 1 "_law_take" spTake []) (c_law_names : Cl Γ CX0 4 "_law_names" (spNms Γ.K) []) (c_law_view : Cl Γ CX0 5 "_law_view" (spLView Γ.K) []) (c_law_lists : Cl Γ CX0 40 "_law_lists" (spLists Γ.K 10) []) (c_beside : Cl Γ CX0 13 "beside" (spBeside Γ.K C) []) (c_copies : Cl Γ CX0 13 "copies" (spCopies Γ.K C) []) (m_copied : Mt Γ CX0 13 C "copied" (spCopied Γ.K C) []) (c_law_beside : Cl Γ CX0 2 "_law_beside" (spLBeside Γ.K) []) (c_law_changed : Cl Γ CX0 20 "_law_changed" (spLChg Γ.K C) []) (c_law_unlike : Cl Γ CX0 20 "_law_unlike" (spUnlike Γ.K C) []) (m_view : Mt Γ CX0 1 C "view" (spView Γ.K C) []) : Cl Γ CX0 (200) "_law_right" spRight8 [] := by
  refine dfn.cl sc_right2 (fun vs H Q E h => ?_) (fun f cdv A outer s H vs Q E hg h => ?_)
  · obtain ⟨b, n, rfl, _⟩ := h
    rfl
  obtain ⟨b, n, rfl, hb, q⟩ := h
  have nd := sc_right2.nd
  obtain ⟨v0, v1, v2, v3, v4, v5, v6, v7, v8, v9, v10, v11, v12, v13, v15, v16, v17, v18, l1, l2, l5, l11, l13, l14, l18, g_Table, g__law_beside, g__law_changed, g__law_lists, g__law_names, g__law_take, g__law_unlike, g__law_view, g_beside, g_copies, g_isinstance, g_len, g_range, g_tuple⟩ := nm_right2
  refine ⟨_, (C8.pss_cut (ps_asg (pe_tup (pa_cons (pcl c_law_names hg (by omega) g__law_names pass0 (pa_cons (ps 0 v0) (pa_cons (pe_op (k_add hg) pe_int (pcl c_law_take hg (by omega) g__law_take pass0 (pa_cons (ps 0 v0) (pa_cons pe_int pa_nil)))) pa_nil))) (pa_cons (pcl c_law_names hg (by omega) g__law_names pass0 (pa_cons (ps 0 v0) (pa_cons pe_int pa_nil))) pa_nil))) (pg_tK hg 2 rfl (pgs_c (pgn (i := 1) nd l1) (pgs_c (pgn (i := 2) nd l2) pgs_0))))
    (C8.pss_cut (ps_p2 (i := 3) (j := 4) rfl nd rfl rfl (by decide) rfl rfl (pa_cons (pcl c_law_view hg (by omega) g__law_view pass0 (pa_cons (ps 0 v0) (pa_cons (ps 1 v1) (pa_cons (ps 2 v2) (pa_cons pe_int (pa_cons pe_bl pa_nil)))))) (pa_cons (pcl c_law_view hg (by omega) g__law_view pass0 (pa_cons (ps 0 v0) (pa_cons (ps 1 v1) (pa_cons (ps 2 v2) (pa_cons pe_int (pa_cons pe_bl pa_nil)))))) pa_nil)) (by rfl))
    (C8.pss_cut (pst (i := 5) nd l5 (pcl c_law_lists hg (by omega) g__law_lists pass0 (pa_cons (ps 3 v3) pa_nil)))
    (C8.pss_cut (ps_p2 (i := 6) (j := 7) rfl nd rfl rfl (by decide) rfl rfl (pa_cons (pmk k_Table hg (by omega) g_Table pass0 (pa_cons (pe_ix (WX.ok hg) (ps 5 v5) pe_int (fun _ _ => rfl)) (pa_cons (pe_ix (WX.ok hg) (ps 5 v5) pe_int (fun _ _ => rfl)) (pa_cons (pe_ix (WX.ok hg) (ps 5 v5) pe_int (fun _ _ => rfl)) pa_nil)))) (pa_cons (pmkk k_Table_links_rows hg (by omega) g_Table pass0 (pa_cons (pe_ix (WX.ok hg) (ps 4 v4) pe_int (fun _ _ => rfl)) pa_nil) (pk_cons (pe_ix (WX.ok hg) (ps 4 v4) pe_int (fun _ _ => rfl)) (pk_cons (pe_ix (WX.ok hg) (ps 4 v4) pe_int (fun _ _ => rfl)) pk_nil))) pa_nil)) (by rfl))
    (pss_cons (ps_expr (pe_bmK hg PySem.F.plainAttrs_list PySem.F.slot_list_append PySem.F.type_list_append mt_append (pe_ix (WX.ok hg) (ps 5 v5) pe_int (fun _ _ => rfl)) (pa_cons pe_str pa_nil)))
    (C8.pss_cut (ps_expr (pe_bmK hg PySem.F.plainAttrs_list PySem.F.slot_list_append PySem.F.type_list_append mt_append (pe_ix (WX.ok hg) (ps 5 v5) pe_int (fun _ _ => rfl)) (pa_cons (pe_lst (pa_cons pe_str (pa_cons pe_int (pa_cons pe_int pa_nil)))) pa_nil)))
    (C8.pss_cut (ps_ifB (PW.pt (pw_orB (pt_cm (k_ne hg) (pe_mw0 hg (ps 6 v6)) (ps 3 v3) (nomark _)) (pw_orB (pt_cm (k_ne hg) (pe_mw0 hg (ps 7 v7)) (ps 4 v4) (nomark _)) (pw_or1 (pt_not (pt_tr hg (pcb (WC.ok hg) g_isinstance T.n_isinstance bt_isinstance (pa_cons (pe_mw0 hg (ps 6 v6)) (pa_cons (pe_bltn (v := .ty "tuple") (gv_of g_tuple).1 T.n_tuple bt_tuple rfl) pa_nil)))))))))
    (pss_one (ps_ret pe_bl))
    pss_nil)
    (C8.pss_cut (ps_p3 (i := 8) (j := 9) (l := 10) rfl nd rfl rfl rfl (by decide) (by decide) (by decide) rfl rfl rfl (pa_cons (pcl c_beside hg (by omega) g_beside pass0 (pa_cons (ps 6 v6) (pa_cons (ps 7 v7) pa_nil))) (pa_cons (pcl c_beside hg (by omega) g_beside pass0 (pa_cons (ps 7 v7) (pa_cons (ps 6 v6) pa_nil))) (pa_cons (pe_mw0 hg (ps 6 v6)) pa_nil))) (by rfl))
    (C8.pss_cut (pst (i := 11) nd l11 (pcl c_law_take hg (by omega) g__law_take pass0 (pa_cons (ps 0 v0) (pa_cons pe_int pa_nil))))
    (C8.pss_cut (ps_p2 (i := 12) (j := 13) rfl nd rfl rfl (by decide) rfl rfl (pa_cons (pcl c_copies hg (by omega) g_copies pass0 (pa_cons (ps 6 v6) (pa_cons (ps 11 v11) pa_nil))) (pa_cons (pe_tup (pa_cons (pe_ix (WX.ok hg) (ps 3 v3) pe_int (fun _ _ => rfl)) (pa_cons (pe_tup pa_nil) (pa_cons (pe_tup pa_nil) pa_nil)))) pa_nil)) (by rfl))
    (C8.pss_cut (ps_for PassesOwn.never rfl (pi_r1 g_range T.n_range (pa_cons (ps 11 v11) pa_nil)) (pgn (i := 14) nd l14)
    (pss_one (pst (i := 13) nd l13 (pcl c_law_beside hg (by omega) g__law_beside pass0 (pa_cons (ps 13 v13) (pa_cons (ps 3 v3) pa_nil))))))
    (C8.pss_cut (ps_ifB (PW.pt (pw_orB (pt_cm (k_ne hg) (pe_mw0 hg (ps 8 v8)) (pcl c_law_beside hg (by omega) g__law_beside pass0 (pa_cons (ps 3 v3) (pa_cons (ps 4 v4) pa_nil))) (nomark _)) (pw_or1 (pt_cm (k_ne hg) (pe_mw0 hg (ps 9 v9)) (pcl c_law_beside hg (by omega) g__law_beside pass0 (pa_cons (ps 4 v4) (pa_cons (ps 3 v3) pa_nil))) (nomark _)))))
    (pss_one (ps_ret pe_bl))
    pss_nil)
    (C8.pss_cut (ps_ifB (PW.pt (pw_orB (pt_cm (k_ne hg) (pe_mw0 hg (ps 10 v10)) (ps 3 v3) (nomark _)) (pw_or1 (pt_cm (k_ne hg) (pe_mw0 hg (ps 12 v12)) (ps 13 v13) (nomark _)))))
    (pss_one (ps_ret pe_bl))
    pss_nil)
    (C8.pss_cut (ps_ifB (PW.pt (pw_orB (pt_not (pt_tr hg (pcl c_law_changed hg (by omega) g__law_changed pass0 (pa_cons (ps 6 v6) (pa_cons (pcb (k_len hg) g_len T.n_len bt_len (pa_cons (pe_ix (WX.ok hg) (ps 3 v3) pe_int (fun _ _ => rfl)) pa_nil)) pa_nil))))) (pw_or1 (pt_cm (k_eq hg) (pe_mw0 hg (ps 6 v6)) (ps 3 v3) (nomark _)))))
    (pss_one (ps_ret pe_bl))
    pss_nil)
    (C8.pss_cut (ps_ifB (pt_cm (k_ne hg) (pe_lst (pa_cons (pe_mw0 hg (ps 8 v8)) (pa_cons (pe_mw0 hg (ps 10 v10)) (pa_cons (pe_mw0 hg (ps 12 v12)) (pa_cons (pe_mw0 hg (ps 7 v7)) pa_nil))))) (pe_lst (pa_cons (pcl c_law_beside hg (by omega) g__law_beside pass0 (pa_cons (ps 3 v3) (pa_cons (ps 4 v4) pa_nil))) (pa_cons (ps 3 v3) (pa_cons (ps 13 v13) (pa_cons (ps 4 v4) pa_nil))))) (nomark _))
    (pss_one (ps_ret pe_bl))
    pss_nil)
    (C8.pss_cut (ps_ifB (PW.pt (pw_orB (pt_not (pt_tr hg (pcl c_law_changed hg (by omega) g__law_changed pass0 (pa_cons (ps 8 v8) (pa_cons (pe_op (k_add hg) (pcb (k_len hg) g_len T.n_len bt_len (pa_cons (pe_ix (WX.ok hg) (ps 3 v3) pe_int (fun _ _ => rfl)) pa_nil)) (pcb (k_len hg) g_len T.n_len bt_len (pa_cons (pe_ix (WX.ok hg) (ps 4 v4) pe_int (fun _ _ => rfl)) pa_nil))) pa_nil))))) (pw_orB (pt_cm (k_ne hg) (pe_mw0 hg (ps 7 v7)) (ps 4 v4) (nomark _)) (pw_or1 (pt_cm (k_ne hg) (pe_mw0 hg (ps 10 v10)) (ps 3 v3) (nomark _))))))
    (pss_one (ps_ret pe_bl))
    pss_nil)
    (C8.pss_cut (ps_setLc (i := 15) (own := [("_law_own", 19)]) rfl nd rfl rfl (sw_true rfl rfl rfl (by decide +kernel)) (pi_l hg (pe_lst (pa_cons pe_str (pa_cons pe_str (pa_cons pe_str (pa_cons pe_str (pa_cons pe_str (pa_cons pe_str (pa_cons pe_str pa_nil))))))))) (blkOk_by (N := n_right2) (sc := defScope s_right2) (by decide +kernel)) (fun _ _ _ _ _ => (pg_name (i := 19) nd rfl (by first | exact .inl rfl | exact .inr rfl))) (fun _ _ _ _ _ => (pts_one (pt_cm (WO.ok hg.blk) (psr 19) (psr 1) (by with_unfolding_all rfl)))) (fun _ _ _ _ _ => (psr 19)))
    (C8.pss_cut (ps_ifB (PW.pt (pw_orB (pt_not (pt_tr hg (pcl c_law_unlike hg (by omega) g__law_unlike pass0 (pa_cons (ps 7 v7) (pa_cons (pmk k_Table_1 hg (by omega) g_Table pass0 (pa_cons (pe_lst (pa_cons (pe_ix (WX.ok hg) (ps 15 v15) pe_int (fun _ _ => rfl)) pa_nil)) pa_nil)) pa_nil))))) (pw_or1 (pt_not (pt_tr hg (pcl c_law_unlike hg (by omega) g__law_unlike pass0 (pa_cons (pmk k_Table_1 hg (by omega) g_Table pass0 (pa_cons (pe_slice (WL.ok hg) (ps 15 v15) po_none (po_pt pe_int)) pa_nil)) (pa_cons (ps 7 v7) pa_nil))))))))
    (pss_one (ps_ret pe_bl))
    pss_nil)
    (C8.pss_cut (ps_p2 (i := 16) (j := 17) rfl nd rfl rfl (by decide) rfl rfl (pa_cons (pmk k_Table_1 hg (by omega) g_Table pass0 (pa_cons (pe_op (k_add hg) (pe_slice (WL.ok hg) (ps 1 v1) po_none (po_pt pe_int)) (pe_lst (pa_cons (pe_ix (WX.ok hg) (ps 15 v15) pe_int (fun _ _ => rfl)) pa_nil))) pa_nil)) (pa_cons (pmk k_Table_1 hg (by omega) g_Table pass0 (pa_cons (pe_slice (WL.ok hg) (ps 1 v1) (po_pt pe_int) po_none) pa_nil)) pa_nil)) (by rfl))
    (C8.pss_cut (ps_ifB (PW.pt (pw_orB (pt_not (pt_tr hg (pcl c_law_unlike hg (by omega) g__law_unlike pass0 (pa_cons (ps 16 v16) (pa_cons (ps 7 v7) pa_nil))))) (pw_or1 (pt_not (pt_tr hg (pcl c_law_unlike hg (by omega) g__law_unlike pass0 (pa_cons (ps 7 v7) (pa_cons (ps 16 v16) pa_nil))))))))
    (pss_one (ps_ret pe_bl))
    pss_nil)
    (C8.pss_cut (ps_ifB (PW.pt (pw_orB (pt_not (pt_tr hg (pcl c_law_unlike hg (by omega) g__law_unlike pass0 (pa_cons (ps 17 v17) (pa_cons (ps 7 v7) pa_nil))))) (pw_or1 (pt_not (pt_tr hg (pcl c_law_unlike hg (by omega) g__law_unlike pass0 (pa_cons (ps 7 v7) (pa_cons (ps 17 v17) pa_nil))))))))
    (pss_one (ps_ret pe_bl))
    pss_nil)
    (pss_cons (pst (i := 18) nd l18 (pmk k_Table_1 hg (by omega) g_Table pass0 (pa_cons (ps 1 v1) pa_nil)))
    (pss_one (ps_ret (pe_and2 hg (pe_cmpR (k_eq hg) (pe_mw0 hg (pcl c_beside hg (by omega) g_beside pass0 (pa_cons (ps 18 v18) (pa_cons (ps 7 v7) pa_nil)))) (ps 4 v4) (nomark _)) (pe_one (pe_cmpR (k_eq hg) (pe_mw0 hg (pcl c_copies hg (by omega) g_copies pass0 (pa_cons (ps 7 v7) (pa_cons pe_int pa_nil)))) (pe_tup (pa_cons (pe_ix (WX.ok hg) (ps 3 v3) pe_int (fun _ _ => rfl)) (pa_cons (pe_tup pa_nil) (pa_cons (pe_tup pa_nil) pa_nil)))) (nomark _)))))))))))))))))))))))))))), ?_⟩
  refine st_start (σ := [some _, none, none, none, none, none, none, none, none, none, none, none, none, none, none, none, none, none, none, none]) rfl ?_
  walk_at "dn"
  have nob : ∀ {p : Addr} {H' : Hp} {m : Nat}, Box b m H' → H' p = none → p ≠ b := fun hb hp e => by
    obtain ⟨xs, e2⟩ := hb.cell
    rw [e, e2] at hp; cases hp
  have sqS : ∀ {H' H'' : Hp} {t : Addr} {xs : List V}, Same H' H'' → SqT Γ.K H' t xs → SqT Γ.K H'' t xs := fun s h => (Fr.of (S := []) s).sqt h List.not_mem_nil
  -- kinds, names
  refine ⟨fun σ' H1 => ∃ (kl nl : Addr) (ks nm : List Str), σ' = [some (.ref b), some (.ref kl), some (.ref nl), none, none, none, none, none, none, none, none, none, none, none, none, none, none, none, none, none] ∧ kl ≠ b ∧ nl ≠ b ∧ 1 ≤ ks.length ∧ ks.length ≤ 3 ∧ ks.Nodup ∧ (∀ k ∈ ks, Nm k) ∧ nm.length = 3 ∧ nm.Nodup ∧ (∀ k ∈ nm, Nm k) ∧ SS (E1 Γ) H [b] H1 [] [boxR b (n + 1999), lstR kl (ks.map V.str), lstR nl (nm.map V.str)], ?_, ?_⟩
  · refine ⟨b, 3, n + 2999, rfl, by omega, by omega, hb, fun r H1 r0 r1 f1 b1 => ?_⟩
    have s1 := (SS.box1 (E := E1 Γ) hb).draw (n := n + 2999) .here f1 b1
    walk_at "di"
    refine ⟨b, n + 2499, (1 + r).toNat, by rw [show (((1 + r).toNat : Nat) : Int) = 1 + r from by omega], (s1.box (.head _)).less (by omega), by omega, fun kl ks H2 hkl f2 b2 hc2 hl2 nd2 nm2 => ?_⟩
    have s2 := s1.drawN (q := kl) (n := n + 2499) .here f2 b2 hkl hc2 (fun z => z)
    refine ⟨b, n + 1999, 3, rfl, b2.less (by omega), by omega, fun nl nm H3 hnl f3 b3 hc3 hl3 nd3 nm3 => ?_⟩
    have s3 := s2.drawN (q := nl) (n := n + 1999) (.next .here) f3 b3 hnl hc3 (fun z => z)
    refine ⟨szl (by simp only [List.length_cons, List.length_nil]; omega), fun T hT => ?_⟩
    refine gt_of (SqT.of upd_same) rfl ?_
    walk_at "dn"
    exact ⟨kl, nl, ks, nm, rfl, nob b1 hkl, nob b2 hnl, by omega, by omega, nd2, nm2, hl3, nd3, nm3, (s3.same (Same.mk hT)).perm ((by decide : ([0, 1, 2] : List Nat).Perm [2, 1, 0]).map fun i => [lstR nl (nm.map V.str), lstR kl (ks.map V.str), boxR b (n + 1999)].getD i (boxR b 0))⟩
  rintro σ' H1 ⟨kl, nl, ks, nm, rfl, nkb, nnb, k1, k3, ndk, nmk, ln3, ndn, nmn, s1⟩
  walk_at "dn"
  -- two views
  refine ⟨fun σ' H1 => ∃ (w1 w2 : Addr) (ks0 : List Str) (rws1 rws2 : List Rw) (ls1 ls2 : List Lk), σ' = [some (.ref b), some (.ref kl), some (.ref nl), some (.ref w1), some (.ref w2), none, none, none, none, none, none, none, none, none, none, none, none, none, none, none] ∧ SS (E1 Γ) H [b] H1 [vwF w2 ks0 rws2 ls2, vwF w1 ks0 rws1 ls1] [boxR b (n + 999), lstR kl (ks.map V.str), lstR nl (nm.map V.str)] ∧ Asc ks0 ∧ (∀ z, z ∈ ks0 ↔ z ∈ ks) ∧ rws1.length ≤ 8 ∧ rws2.length ≤ 8 ∧ (∀ u ∈ rws1 ++ rws2, Asc u.1 ∧ ∀ z ∈ u.1, z ∈ nm) ∧ LksOk rws1.length ks0 ls1 ∧ LksOk rws2.length ks0 ls2 ∧ ls1.length ≤ 40 ∧ ls2.length ≤ 40 ∧ LPw ls1 ∧ LPw ls2, ?_, ?_⟩
  · refine ⟨b, kl, nl, ks, nm, 8, n + 1499, false, rfl, (s1.box (.head _)).less (by omega), SqL.of (s1.cell (p := kl) (b := false) (.tail _ (.head _))), SqL.of (s1.cell (p := nl) (b := false) (.tail _ (.tail _ (.head _)))), nkb, nnb, ndk, k3, nmk, ndn, by omega, nmn, by decide, fun w1 pk pf pl ks0 fts rws1 lts ls1 H3 f3 b3 hp hpk asc hk' hpf hrw lrw hu hpl hlk lok lls hsrt _ => ?_⟩
    have s3 := (s1.draw (n := n + 1499) .here f3 b3).add (vwF w1 ks0 rws1 ls1) ⟨pk, pf, pl, fts, lts, hp, hpk, hpf, hrw, hpl, hlk⟩
    obtain ⟨l0, rfl⟩ := hsrt
    refine ⟨b, kl, nl, ks, nm, 8, n + 999, false, rfl, b3.less (by omega), SqL.of (s3.cell (p := kl) (b := false) (.tail _ (.head _))), SqL.of (s3.cell (p := nl) (b := false) (.tail _ (.tail _ (.head _)))), nkb, nnb, ndk, k3, nmk, ndn, by omega, nmn, by decide, fun w2 pkB pfB plB ks2 ftsB rws2 ltsB ls2 H4 f4 b4 hpB hpkB asc2 hk2 hpfB hrwB lrw2 hu2 hplB hlkB lok2 lls2 hsrt2 _ => ?_⟩
    obtain rfl : ks2 = ks0 := asc2.eq asc fun z => (hk2 z).trans (hk' z).symm
    have s4 := (s3.draw (n := n + 999) .here f4 b4).add (vwF w2 ks2 rws2 ls2) ⟨pkB, pfB, plB, ftsB, ltsB, hpB, hpkB, hpfB, hrwB, hplB, hlkB⟩
    obtain ⟨l1, rfl⟩ := hsrt2
    refine ⟨w1, w2, ks2, rws1, rws2, _, _, rfl, s4, asc2, hk2, lrw, lrw2, fun u hu' => ?_, ⟨fun e he => (hk2 _).mpr (lok.k e he), fun k hk => lok.i k ((hk2 k).mp hk)⟩, ⟨fun e he => (hk2 _).mpr (lok2.k e he), fun k hk => lok2.i k ((hk2 k).mp hk)⟩, lls, lls2, lpw_sort l0, lpw_sort l1⟩
    rcases List.mem_append.mp hu' with h | h
    · exact hu u h
    · exact hu2 u h
  clear s1
  rintro σ' H1 ⟨w1, w2, ks0, rws1, rws2, ls1, ls2, rfl, s1, asc, hk', lr1, lr2, hu, lok1, lok2, ll1, ll2, pw1, pw2⟩
  walk_at "dn"
  have nmu : ∀ u ∈ rws1 ++ rws2, (∀ z ∈ u.1, Nm z) ∧ u.1.length < 50 := fun u hu' => ⟨fun z hz => nmn z ((hu u hu').2 z hz), by
    have := nodup_len u.1 nm (hu u hu').1.nd (hu u hu').2
    omega⟩
  have nm0 : ∀ z ∈ ks0, Nm z := fun z hz => nmk z ((hk' z).mp hz)
  have lk0 : ks0.length ≤ 3 := Nat.le_trans (nodup_len ks0 ks asc.nd fun z hz => (hk' z).mp hz) (by omega)
  have lk1 : 1 ≤ ks0.length := by
    obtain ⟨k0, hk0⟩ : ∃ k0, k0 ∈ ks := ⟨_, List.getElem_mem (show 0 < ks.length by omega)⟩
    exact List.length_pos_of_mem ((hk' k0).mpr hk0)
  -- the lists
  refine ⟨fun σ' H1 => ∃ (li p0 p1 p2 : Addr) (rts lts L : List Addr), σ' = [some (.ref b), some (.ref kl), some (.ref nl), some (.ref w1), some (.ref w2), some (.ref li), none, none, none, none, none, none, none, none, none, none, none, none, none, none] ∧ L.Nodup ∧ (∀ a, a ∈ L ↔ a = li ∨ a = p0 ∨ a = p2) ∧ li ≠ p0 ∧ H1 p0 = some (.lst (ks0.map V.str)) ∧ H1 p1 = some (.lst (rts.map V.ref)) ∧ H1 p2 = some (.lst (lts.map V.ref)) ∧ RwG Γ.K H1 rts rws1 ∧ LnkG Γ.K H1 lts ls1 ∧ SS (E1 Γ) H [b] H1 [vwF w2 ks0 rws2 ls2, vwF w1 ks0 rws1 ls1] [liR li p0 p1 p2 L 100, boxR b (n + 999), lstR kl (ks.map V.str), lstR nl (nm.map V.str)], ?_, ?_⟩
  · have hv : VwP Γ.K H1 w1 ks0 rws1 ls1 := s1.f (vwF w1 ks0 rws1 ls1) (.tail _ (.head _))
    refine ⟨.ref w1, vwD ks0 rws1 ls1, rfl, hv.dp, tupl_vw (by omega) (by omega) (by omega) (fun r hr => by have := (nmu r (List.mem_append_left _ hr)).2; omega), by have := dep_vw (ks := ks0) (rws := rws1) (ls := ls1); omega, fun y H2 s2 hy => ?_⟩
    obtain ⟨li, p0, p1, p2, rts, lts, rfl, n0, n1, n2, c, c0, c1, c2, k1_, k2_⟩ := (DL.vw (K := Γ.K) hy).ex
    have ne : li ≠ p0 := fun e => by
      rw [e, c0] at c
      have c := Option.some.inj c
      have c : ks0.map V.str = [V.ref p0, .ref p1, .ref p2] := by injection c
      cases ks0 with
      | nil => simp at c
      | cons k ks => simp at c
    obtain ⟨L, hL1, hL2⟩ : ∃ L : List Addr, L.Nodup ∧ ∀ a, a ∈ L ↔ a = li ∨ a = p0 ∨ a = p2 := by
      by_cases e : p2 = li ∨ p2 = p0
      · refine ⟨[li, p0], by simp [ne], fun a => ?_⟩
        simp only [List.mem_cons, List.not_mem_nil, or_false]
        rcases e with e | e <;> subst e <;> simp [or_comm, or_left_comm]
      · refine ⟨[li, p0, p2], ?_, fun a => by simp⟩
        have e1 : li ≠ p2 := fun z => e (.inl z.symm)
        have e2 : p0 ≠ p2 := fun z => e (.inr z.symm)
        simp [ne, e1, e2]
    have hlt := k2_.len
    refine ⟨li, p0, p1, p2, rts, lts, L, rfl, hL1, hL2, ne, c0, c1, c2, k1_, k2_, s1.newR (liR li p0 p1 p2 L 100) s2 ⟨hL2, c, ⟨_, c0, by rw [List.length_map]; omega⟩, ⟨_, c2, by rw [List.length_map]; omega⟩⟩ hL1 (fun a ha => ?_) fun a ha => ?_⟩
    · rcases (hL2 a).mp ha with rfl | rfl | rfl
      · exact n0
      · exact n1
      · exact n2
    · rcases (hL2 a).mp ha with rfl | rfl | rfl
      · exact ⟨_, c, fun z => z⟩
      · exact ⟨_, c0, fun z => z⟩
      · exact ⟨_, c2, fun z => z⟩
  clear s1
  rintro σ' H1 ⟨li, p0, p1, p2, rts, lts, Lc, rfl, hL1, hL2, ne0, c0, c1, c2, k1_, k2_, s1⟩
  walk_at "dn"
  -- two tables
  refine ⟨fun σ' H1 => ∃ (A1 A2 : TAd) (B1 B2 : Tb), σ' = [some (.ref b), some (.ref kl), some (.ref nl), some (.ref w1), some (.ref w2), some (.ref li), some (.ref A1.a), some (.ref A2.a), none, none, none, none, none, none, none, none, none, none, none, none] ∧ SS (E1 Γ) H [b] H1 [vwF w2 ks0 rws2 ls2, vwF w1 ks0 rws1 ls1] [tbR C A2 B2, tbR C A1 B1, liR li p0 p1 p2 Lc 100, boxR b (n + 999), lstR kl (ks.map V.str), lstR nl (nm.map V.str)] ∧ (B1.ks = ks0 ∧ B1.rows = rws1 ∧ TbL B1 ∧ LnkT B1 ls1) ∧ (B2.ks = ks0 ∧ B2.rows = rws2 ∧ TbL B2 ∧ LnkT B2 ls2), ?_, ?_⟩
  · have hl : liP li p0 p1 p2 Lc 100 H1 := s1.r (liR li p0 p1 p2 Lc 100) (.head _)
    refine wx_l (SqL.of hl.2.1) (v := .ref p0) (at_nat (i := 0) rfl) (wx_l (SqL.of hl.2.1) (v := .ref p1) (at_nat (i := 1) rfl) (wx_l (SqL.of hl.2.1) (v := .ref p2) (at_nat (i := 2) rfl) fun x dx hx hdx ne => ?_))
    refine mkTG (c := true) (b1 := true) (b2 := true) (ks := ks0) (rts := rts) (rws := rws1) (lts := lts) (ls := ls1) hx hdx ne (SqL.of c0) nm0 asc.nd (by omega) (fun _ => ⟨_, c1⟩) (fun _ => ⟨_, c2⟩) (SqL.of c1) k1_ (fun u hu' => ⟨(nmu u (List.mem_append_left _ hu')).1, by have := (nmu u (List.mem_append_left _ hu')).2; omega⟩) (by omega) (SqL.of c2) k2_ lok1 (by omega) fun A1 B1 H2 ea s2 new t2 rr rx rb rk => ⟨rfl, ?_⟩
    subst ea
    have f1 := made_lt t2 rr (fun u hu' => (hu u (List.mem_append_left _ hu')).1) rx rb rk asc (fun _ => Iff.rfl) lok1 pw1 (by omega)
    have s3 := s1.newR (tbR C A1 B1) s2 t2 t2.nd new t2.cells
    dsimp only [L2.tMakeN]
    walk_at "dn"
    obtain ⟨pk, pf, pl, fts, lts2, h1, h2, h3, h4, h5, h6⟩ := (show VwP Γ.K H2 w2 ks0 rws2 ls2 from s3.f (vwF w2 ks0 rws2 ls2) (.head _)).ex
    refine wx_t h1 (v := .ref pk) (atG (j := 0) rfl rfl) (wx_t h1 (v := .ref pl) (atG (j := 2) rfl rfl) (wx_t h1 (v := .ref pf) (atG (j := 1) rfl rfl) ⟨rfl, rfl, fun x dx hx hdx ne => ?_⟩))
    refine mkTG (c := false) (b1 := false) (b2 := false) (ks := ks0) (rts := fts) (rws := rws2) (lts := lts2) (ls := ls2) hx hdx ne h2 nm0 asc.nd (by omega) (fun h => nomatch h) (fun h => nomatch h) h3 h4.g (fun u hu' => ⟨(nmu u (List.mem_append_right _ hu')).1, by have := (nmu u (List.mem_append_right _ hu')).2; omega⟩) (by omega) h5 h6.g lok2 (by omega) fun A2 B2 H3 ea s4 new t4 rr rx rb rk => ⟨rfl, ?_⟩
    subst ea
    have f2 := made_lt t4 rr (fun u hu' => (hu u (List.mem_append_right _ hu')).1) rx rb rk asc (fun _ => Iff.rfl) lok2 pw2 (by omega)
    exact ⟨A1, A2, B1, B2, rfl, s3.newR (tbR C A2 B2) s4 t4 t4.nd new t4.cells, f1, f2⟩
  clear s1 c0 c1 c2 k1_ k2_
  rintro σ' H1 ⟨A1, A2, B1, B2, rfl, s1, ⟨ek1, er1, La1, T1⟩, ⟨ek2, er2, La2, T2⟩⟩
  walk_at "dn"
  -- what is changed in the lists
  have hl1 : liP li p0 p1 p2 Lc 100 H1 := s1.r (liR li p0 p1 p2 Lc 100) (.tail _ (.tail _ (.head _)))
  obtain ⟨_, hli, ⟨xs0, hx0, lx0⟩, ⟨ys0, hy0, ly0⟩⟩ := hl1
  refine wx_l (SqL.of hli) (v := .ref p0) (at_nat (i := 0) rfl) ⟨ty_l (SqL.of hx0), ?_⟩
  have ap2 : ∀ {q : Addr} {zs : List V} {v : V} {H2 : Hp} {R : VK} {N : Nat}, (q = p0 ∨ q = p2) → q ≠ li → H2 q = some (.lst zs) → zs.length ≤ N → N < 1000 → SS (E1 Γ) H [b] H2 [vwF w2 ks0 rws2 ls2, vwF w1 ks0 rws1 ls1] [tbR C A2 B2, tbR C A1 B1, liR li p0 p1 p2 Lc N, boxR b (n + 999), lstR kl (ks.map V.str), lstR nl (nm.map V.str)] → (∀ H3, SS (E1 Γ) H [b] H3 [vwF w2 ks0 rws2 ls2, vwF w1 ks0 rws1 ls1] [tbR C A2 B2, tbR C A1 B1, liR li p0 p1 p2 Lc (N + 1), boxR b (n + 999), lstR kl (ks.map V.str), lstR nl (nm.map V.str)] → R .non H3) → rAppend (.ref q) [v] H2 R := fun {q} {zs} {v} {H2} {R} {N} hq nq hz lz lN s k => by
    have hm : q ∈ Lc := (hL2 q).mpr (.inr hq)
    obtain ⟨g0, g1, ⟨xs, g2, g3⟩, ⟨ys, g4, g5⟩⟩ := (show liP li p0 p1 p2 Lc N H2 from s.r (liR li p0 p1 p2 Lc N) (.tail _ (.tail _ (.head _))))
    have hp : liP li p0 p1 p2 Lc (N + 1) (upd H2 q (.lst (zs ++ [v]))) := by
      refine ⟨g0, by rw [upd_ne (Ne.symm nq)]; exact g1, ?_, ?_⟩
      · by_cases e : p0 = q
        · rw [e, upd_same]
          exact ⟨_, rfl, by rw [List.length_append, List.length_singleton]; omega⟩
        · rw [upd_ne e]
          exact ⟨xs, g2, by omega⟩
      · by_cases e : p2 = q
        · rw [e, upd_same]
          exact ⟨_, rfl, by rw [List.length_append, List.length_singleton]; omega⟩
        · rw [upd_ne e]
          exact ⟨ys, g4, by omega⟩
    refine ⟨q, zs, v, rfl, rfl, hz, lt_size (by omega), k _ ?_⟩
    refine s.upd (r := liR li p0 p1 p2 Lc N) (r' := liR li p0 p1 p2 Lc (N + 1)) (.next (.next .here)) rfl (Fr.upd hm) hp hL1 (fun a h => .inl h) fun a ha => ?_
    rcases (hL2 a).mp ha with e | e | e
    · rw [e]; exact ⟨_, hp.2.1, fun z => z⟩
    · obtain ⟨xs, h, _⟩ := hp.2.2.1
      rw [e]; exact ⟨_, h, fun z => z⟩
    · obtain ⟨xs, h, _⟩ := hp.2.2.2
      rw [e]; exact ⟨_, h, fun z => z⟩
  refine ap2 (.inl rfl) (Ne.symm ne0) hx0 lx0 (by decide) s1 fun H2 s2 => ?_
  refine ⟨fun σ' H2 => σ' = [some (.ref b), some (.ref kl), some (.ref nl), some (.ref w1), some (.ref w2), some (.ref li), some (.ref A1.a), some (.ref A2.a), none, none, none, none, none, none, none, none, none, none, none, none] ∧ SS (E1 Γ) H [b] H2 [vwF w2 ks0 rws2 ls2, vwF w1 ks0 rws1 ls1] [tbR C A2 B2, tbR C A1 B1, boxR b (n + 999), lstR kl (ks.map V.str), lstR nl (nm.map V.str)], ?_, ?_⟩
  · obtain ⟨g0, g1, ⟨xs, g2, g3⟩, ⟨ys, g4, g5⟩⟩ := (show liP li p0 p1 p2 Lc 101 H2 from s2.r (liR li p0 p1 p2 Lc 101) (.tail _ (.tail _ (.head _))))
    refine wx_l (SqL.of g1) (v := .ref p2) (at_nat (i := 2) rfl) ⟨ty_l (SqL.of g4), szl (by simp only [List.length_cons, List.length_nil]; omega), fun T hT => ?_⟩
    have sT := Same.mk (o := .lst [.str "later", .int 0, .int 1]) hT
    have s3 := s2.same sT
    refine ⟨p2, ys, _, rfl, rfl, sT _ _ g4, lt_size (by omega), rfl, ?_⟩
    have hm : p2 ∈ Lc := (hL2 p2).mpr (.inr (.inr rfl))
    have s4 := s3.upd (H' := upd (upd H2 T (.lst [.str "later", .int 0, .int 1])) p2 (.lst (ys ++ [.ref T]))) (r := liR li p0 p1 p2 Lc 101) (r' := anyR Lc) (.next (.next .here)) rfl (Fr.upd hm) trivial hL1 (fun a h => .inl h) fun a ha => by
      by_cases e : a = p2
      · rw [e, upd_same]; exact ⟨_, rfl, fun z => z⟩
      · rw [upd_ne e]
        exact s3.tr a (mem_fps (r := liR li p0 p1 p2 Lc 101) (.tail _ (.tail _ (.head _))) a ha)
    exact s4.subl (.cons_cons _ (.cons_cons _ (.cons _ (.refl _))))
  clear s1 ap2 hli hx0 hy0 hL1 hL2 s2
  rintro σ' H2 ⟨rfl, s2⟩
  walk_at "dn"
  have f1 : TvP B1 ks0 rws1 ls1 := ⟨ek1, er1, La1, T1⟩
  have f2 : TvP B2 ks0 rws2 ls2 := ⟨ek2, er2, La2, T2⟩
  clear ek1 er1 La1 T1 ek2 er2 La2 T2
  have oku : ∀ u ∈ rws1 ++ rws2, ∀ k ∈ u.1, PyData.strOk k = true := fun u hu' k hk => ((nmu u hu').1 k hk).ok
  have h60 : ∀ u ∈ rws1 ++ rws2, (∀ z ∈ u.1, Nm z) ∧ u.1.length < 60 := fun u hu' => ⟨(nmu u hu').1, by have := (nmu u hu').2; omega⟩
  have asu : ∀ u ∈ rws1 ++ rws2, Asc u.1 := fun u hu' => (hu u hu').1
  have i1 : ∀ {u : Rw}, u ∈ rws1 → u ∈ rws1 ++ rws2 := fun h => List.mem_append_left _ h
  have i2 : ∀ {u : Rw}, u ∈ rws2 → u ∈ rws1 ++ rws2 := fun h => List.mem_append_right _ h
  have i21 : ∀ {u : Rw}, u ∈ rws2 ++ rws1 → u ∈ rws1 ++ rws2 := fun h => (List.mem_append.mp h).elim i2 i1
  have sh1 := f1.sh nm0 fun u h => oku u (i1 h)
  have sh2 := f2.sh nm0 fun u h => oku u (i2 h)
  -- both are told
  refine ⟨fun σ' H3 => σ' = [some (.ref b), some (.ref kl), some (.ref nl), some (.ref w1), some (.ref w2), some (.ref li), some (.ref A1.a), some (.ref A2.a), none, none, none, none, none, none, none, none, none, none, none, none] ∧ SS (E1 Γ) H [b] H3 [vwF w2 ks0 rws2 ls2, vwF w1 ks0 rws1 ls1] [tbR C A2 B2, tbR C A1 B1, boxR b (n + 999), lstR kl (ks.map V.str), lstR nl (nm.map V.str)], ?_, ?_⟩
  · have t1 : TbP Γ.K C A1 B1 H2 := s2.tb (.tail _ (.head _))
    have t2 : TbP Γ.K C A2 B2 H2 := s2.tb (.head _)
    have o1 : VwP Γ.K H2 w1 ks0 rws1 ls1 := s2.f (vwF w1 ks0 rws1 ls1) (.tail _ (.head _))
    have o2 : VwP Γ.K H2 w2 ks0 rws2 ls2 := s2.f (vwF w2 ks0 rws2 ls2) (.head _)
    refine tv_go m_view (by omega) t1 f1 (by omega) fun p H3 s3 hv => ?_
    walk_at "di"
    refine wo_neS1 hv.dp (o1.same s3).dp sh1 ?_
    walk_at "di"
    refine tv_go m_view (by omega) (t2.same s3) f2 (by omega) fun p' H4 s4 hv' => ?_
    walk_at "di"
    refine wo_neS1 hv'.dp (o2.same (s3.trans s4)).dp sh2 ?_
    walk_at "di"
    refine tv_go m_view (by omega) (t1.same (s3.trans s4)) f1 (by omega) fun p'' H5 s5 hv'' => ?_
    walk_at "di"
    refine wc_isi1 hv''.dp ki_tuple_tuple ?_
    walk_at "di"
    exact ⟨rfl, s2.same ((s3.trans s4).trans s5)⟩
  clear s2
  rintro σ' H2 ⟨rfl, s2⟩
  walk_at "dn"
  -- three more
  refine ⟨fun σ' H3 => ∃ (A3 A4 A5 : TAd) (B3 B4 B5 : Tb), σ' = [some (.ref b), some (.ref kl), some (.ref nl), some (.ref w1), some (.ref w2), some (.ref li), some (.ref A1.a), some (.ref A2.a), some (.ref A3.a), some (.ref A4.a), some (.ref A5.a), none, none, none, none, none, none, none, none, none] ∧ SS (E1 Γ) H [b] H3 [vwF w2 ks0 rws2 ls2, vwF w1 ks0 rws1 ls1] [tbR C A5 B5, tbR C A4 B4, tbR C A3 B3, tbR C A2 B2, tbR C A1 B1, boxR b (n + 999), lstR kl (ks.map V.str), lstR nl (nm.map V.str)] ∧ TvP B3 ks0 (rws1 ++ rws2) ((ls1 ++ mv rws1.length ls2).mergeSort lkLe) ∧ TvP B4 ks0 (rws2 ++ rws1) ((ls2 ++ mv rws2.length ls1).mergeSort lkLe) ∧ TvP B5 ks0 rws1 ls1, ?_, ?_⟩
  · have t1 : TbP Γ.K C A1 B1 H2 := s2.tb (.tail _ (.head _))
    have t2 : TbP Γ.K C A2 B2 H2 := s2.tb (.head _)
    refine bes_go t1 t2 f1 f2 nm0 (by omega) (by omega) (by omega) h60 asu (by omega) (by omega) fun A3 B3 H3 s3 new3 t3 f3 => ?_
    refine bes_go (t2.same s3) (t1.same s3) f2 f1 nm0 (by omega) (by omega) (by omega) (fun u h => h60 u (i21 h)) (fun u h => asu u (i21 h)) (by omega) (by omega) fun A4 B4 H4 s4 new4 t4 f4 => ?_
    have s34 := s3.trans s4
    refine ⟨13, C, A1.a, A1.dx, A1.fs, spCopied Γ.K C, [], E0, ⟨m_copied.ex⟩, by omega, rfl, (t1.same s34).ins, by rfl, cpd_go (t1.same s34) f1 nm0 (by omega) (by omega) (fun u h => h60 u (i1 h)) (fun u h => asu u (i1 h)) (by omega) pw1 fun A5 B5 H5 s5 new5 t5 f5 => ?_⟩
    exact ⟨A3, A4, A5, B3, B4, B5, rfl, ((s2.newR (tbR C A3 B3) s3 t3 t3.nd new3 t3.cells).newR (tbR C A4 B4) s4 t4 t4.nd new4 t4.cells).newR (tbR C A5 B5) s5 t5 t5.nd new5 t5.cells, f3, f4, f5⟩
  clear s2
  rintro σ' H2 ⟨A3, A4, A5, B3, B4, B5, rfl, s2, f3, f4, f5⟩
  walk_at "dn"
  -- how many copies
  refine ⟨fun σ' H3 => ∃ many : Nat, σ' = [some (.ref b), some (.ref kl), some (.ref nl), some (.ref w1), some (.ref w2), some (.ref li), some (.ref A1.a), some (.ref A2.a), some (.ref A3.a), some (.ref A4.a), some (.ref A5.a), some (.int (many : Nat)), none, none, none, none, none, none, none, none] ∧ many ≤ 3 ∧ SS (E1 Γ) H [b] H3 [vwF w2 ks0 rws2 ls2, vwF w1 ks0 rws1 ls1] [tbR C A5 B5, tbR C A4 B4, tbR C A3 B3, tbR C A2 B2, tbR C A1 B1, boxR b (n + 998), lstR kl (ks.map V.str), lstR nl (nm.map V.str)], ?_, ?_⟩
  · have bx := s2.box (.tail _ (.tail _ (.tail _ (.tail _ (.tail _ (.head _))))))
    refine ⟨b, 4, n + 998, rfl, by decide, by decide, bx.less (by omega), fun r H3 r0 r1 f3 b3 => ?_⟩
    exact ⟨r.toNat, by rw [Int.toNat_of_nonneg r0], by omega, s2.draw (n := n + 998) (.next (.next (.next (.next (.next .here))))) f3 b3⟩
  clear s2
  rintro σ' H2 ⟨many, rfl, hmany, s2⟩
  walk_at "dn"
  -- the copies
  refine ⟨fun σ' H3 => ∃ (A6 : TAd) (B6 : Tb) (dv : Addr), σ' = [some (.ref b), some (.ref kl), some (.ref nl), some (.ref w1), some (.ref w2), some (.ref li), some (.ref A1.a), some (.ref A2.a), some (.ref A3.a), some (.ref A4.a), some (.ref A5.a), some (.int (many : Nat)), some (.ref A6.a), some (.ref dv), none, none, none, none, none, none] ∧ SS (E1 Γ) H [b] H3 [vwF dv ks0 [] [], vwF w2 ks0 rws2 ls2, vwF w1 ks0 rws1 ls1] [tbR C A6 B6, tbR C A5 B5, tbR C A4 B4, tbR C A3 B3, tbR C A2 B2, tbR C A1 B1, boxR b (n + 998), lstR kl (ks.map V.str), lstR nl (nm.map V.str)] ∧ ∀ dl : List Lk, dl.Perm (cps rws1.length ls1 many) → LPw dl → TvP B6 ks0 (rep rws1 many) dl, ?_, ?_⟩
  · have t1 : TbP Γ.K C A1 B1 H2 := s2.tb (.tail _ (.tail _ (.tail _ (.tail _ (.head _)))))
    refine cps_go t1 f1 nm0 (by omega) (by omega) (by omega) (fun u h => h60 u (i1 h)) (fun u h => asu u (i1 h)) (by omega) fun A6 B6 H3 s3 new6 t6 f6 => ?_
    have s4 := s2.newR (tbR C A6 B6) s3 t6 t6.nd new6 t6.cells
    obtain ⟨pk, pf, pl, fts, lts, h1, h2, h3, h4, h5, h6⟩ := (show VwP Γ.K H3 w1 ks0 rws1 ls1 from s4.f (vwF w1 ks0 rws1 ls1) (.tail _ (.head _))).ex
    refine wx_t h1 (v := .ref pk) (atG (j := 0) rfl rfl) ⟨szl (by simp only [List.length_nil]; omega), fun e1_ g1 => ⟨szl (by simp only [List.length_nil]; omega), fun e2_ g2 => ⟨szl (by simp only [List.length_cons, List.length_nil]; omega), fun e3_ g3 => ?_⟩⟩⟩
    have s5 := ((s4.newT (xs := []) g1).newT (xs := []) g2).newT (xs := [.ref pk, .ref e1_, .ref e2_]) g3
    have due : VwP Γ.K _ e3_ ks0 [] [] := ⟨pk, e1_, e2_, [], [], s5.tup (.head _), sqS (((Same.mk g1).trans (Same.mk g2)).trans (Same.mk g3)) h2, s5.tup (.tail _ (.tail _ (.head _))), ⟨rfl, fun i t r a => by simp at a⟩, s5.tup (.tail _ (.head _)), ⟨rfl, fun i t r a => by simp at a⟩⟩
    have s6 := (s5.add (vwF e3_ ks0 [] []) due).sub (F' := [vwF e3_ ks0 [] [], vwF w2 ks0 rws2 ls2, vwF w1 ks0 rws1 ls1]) fun w hw => by
      rcases List.mem_cons.mp hw with rfl | hw
      · exact .head _
      · exact .tail _ (.tail _ (.tail _ (.tail _ hw)))
    exact ⟨A6, B6, e3_, rfl, s6, f6⟩
  clear s2
  rintro σ' H2 ⟨A6, B6, dv, rfl, s2, f6⟩
  walk_at "dn"
  -- what the copies should be
  have ll1c : ∀ i, i ≤ 3 → ls1.length * i ≤ 40 * 3 := fun i hi => Nat.mul_le_mul ll1 hi
  have lr1c : ∀ i, i ≤ 3 → rws1.length * i ≤ 8 * 3 := fun i hi => Nat.mul_le_mul lr1 hi
  refine ⟨fun σ' H3 => ∃ (dv : Addr) (dl : List Lk) (c14 : Option V), σ' = [some (.ref b), some (.ref kl), some (.ref nl), some (.ref w1), some (.ref w2), some (.ref li), some (.ref A1.a), some (.ref A2.a), some (.ref A3.a), some (.ref A4.a), some (.ref A5.a), some (.int (many : Nat)), some (.ref A6.a), some (.ref dv), c14, none, none, none, none, none] ∧ dl.Perm (cps rws1.length ls1 many) ∧ LPw dl ∧ SS (E1 Γ) H [b] H3 [vwF dv ks0 (rep rws1 many) dl, vwF w2 ks0 rws2 ls2, vwF w1 ks0 rws1 ls1] [tbR C A6 B6, tbR C A5 B5, tbR C A4 B4, tbR C A3 B3, tbR C A2 B2, tbR C A1 B1, boxR b (n + 998), lstR kl (ks.map V.str), lstR nl (nm.map V.str)], ?_, ?_⟩
  · refine ⟨many, rfl, by omega, by omega, ?_⟩
    refine lp_range (fun i σ' H3 => ∃ (dv : Addr) (dl : List Lk) (c14 : Option V), σ' = [some (.ref b), some (.ref kl), some (.ref nl), some (.ref w1), some (.ref w2), some (.ref li), some (.ref A1.a), some (.ref A2.a), some (.ref A3.a), some (.ref A4.a), some (.ref A5.a), some (.int (many : Nat)), some (.ref A6.a), some (.ref dv), c14, none, none, none, none, none] ∧ dl.Perm (cps rws1.length ls1 i) ∧ LPw dl ∧ SS (E1 Γ) H [b] H3 [vwF dv ks0 (rep rws1 i) dl, vwF w2 ks0 rws2 ls2, vwF w1 ks0 rws1 ls1] [tbR C A6 B6, tbR C A5 B5, tbR C A4 B4, tbR C A3 B3, tbR C A2 B2, tbR C A1 B1, boxR b (n + 998), lstR kl (ks.map V.str), lstR nl (nm.map V.str)]) ⟨dv, [], _, rfl, .refl _, .nil, s2⟩ ?_ (fun σ' H' h => h)
    rintro i σ' H3 hi ⟨dv, dl, c14, rfl, hp, pw, s3⟩
    walk_at "dn"
    have ldl : dl.length = ls1.length * i := by rw [hp.length_eq, cps_len]
    have h1 := ll1c i (by omega)
    have h2 := lr1c i (by omega)
    refine ⟨dv, w1, ks0, ks0, rep rws1 i, rws1, dl, ls1, rfl, s3.f (vwF dv ks0 (rep rws1 i) dl) (.head _), s3.f (vwF w1 ks0 rws1 ls1) (.tail _ (.tail _ (.head _))), by omega, by omega, by rw [rep_len]; omega, by omega, fun v H4 s4 hv => ?_⟩
    refine ⟨v, (dl ++ mv (rep rws1 i).length ls1).mergeSort lkLe, _, rfl, ?_, lpw_sort _, ((s3.same s4).add (vwF v ks0 (rep rws1 (i + 1)) ((dl ++ mv (rep rws1 i).length ls1).mergeSort lkLe)) hv).sub fun w hw => ?_⟩
    · refine (sort_perm _).trans ?_
      rw [rep_len]
      exact hp.append_right _
    · rcases List.mem_cons.mp hw with rfl | hw
      · exact .head _
      · exact .tail _ (.tail _ hw)
  clear s2
  rintro σ' H2 ⟨dv, dl, c14, rfl, hdl, pwd, s2⟩
  replace f6 := f6 dl hdl pwd
  walk_at "dn"
  have ldl : dl.length ≤ 120 := by rw [hdl.length_eq, cps_len]; exact ll1c many hmany
  have lrc : (rep rws1 many).length ≤ 24 := by rw [rep_len]; exact lr1c many hmany
  have sh3 := f3.sh nm0 oku
  have sh4 := f4.sh nm0 fun u h => oku u (i21 h)
  have sh6 := f6.sh nm0 fun u h => oku u (i1 (rep_mem h))
  have lb12 : ∀ {H' : Hp} {R : VK}, SS (E1 Γ) H [b] H' [vwF dv ks0 (rep rws1 many) dl, vwF w2 ks0 rws2 ls2, vwF w1 ks0 rws1 ls1] [tbR C A6 B6, tbR C A5 B5, tbR C A4 B4, tbR C A3 B3, tbR C A2 B2, tbR C A1 B1, boxR b (n + 998), lstR kl (ks.map V.str), lstR nl (nm.map V.str)] → (∀ v H2, Same H' H2 → VwP Γ.K H2 v ks0 (rws1 ++ rws2) ((ls1 ++ mv rws1.length ls2).mergeSort lkLe) → R (.ref v) H2) → spLBeside Γ.K [.ref w1, .ref w2] H' R E0 := fun {H'} {R} s k =>
    ⟨w1, w2, ks0, ks0, rws1, rws2, ls1, ls2, rfl, s.f (vwF w1 ks0 rws1 ls1) (.tail _ (.tail _ (.head _))), s.f (vwF w2 ks0 rws2 ls2) (.tail _ (.head _)), by omega, by omega, by omega, by omega, k⟩
  -- joint, other
  refine ⟨fun σ' H3 => σ' = [some (.ref b), some (.ref kl), some (.ref nl), some (.ref w1), some (.ref w2), some (.ref li), some (.ref A1.a), some (.ref A2.a), some (.ref A3.a), some (.ref A4.a), some (.ref A5.a), some (.int (many : Nat)), some (.ref A6.a), some (.ref dv), c14, none, none, none, none, none] ∧ SS (E1 Γ) H [b] H3 [vwF dv ks0 (rep rws1 many) dl, vwF w2 ks0 rws2 ls2, vwF w1 ks0 rws1 ls1] [tbR C A6 B6, tbR C A5 B5, tbR C A4 B4, tbR C A3 B3, tbR C A2 B2, tbR C A1 B1, boxR b (n + 998), lstR kl (ks.map V.str), lstR nl (nm.map V.str)], ?_, ?_⟩
  · have t3 : TbP Γ.K C A3 B3 H2 := s2.tb (.tail _ (.tail _ (.tail _ (.head _))))
    have t4 : TbP Γ.K C A4 B4 H2 := s2.tb (.tail _ (.tail _ (.head _)))
    refine tv_go m_view (by omega) t3 f3 (by rw [List.length_append]; omega) fun p H3 s3 hv => ?_
    refine lb12 (s2.same s3) fun v H4 s4 hv4 => ?_
    walk_at "di"
    refine wo_neS1 (hv.same s4).dp hv4.dp sh3 ?_
    walk_at "di"
    refine tv_go m_view (by omega) (t4.same (s3.trans s4)) f4 (by rw [List.length_append]; omega) fun p' H5 s5 hv5 => ?_
    have s25 := s2.same ((s3.trans s4).trans s5)
    refine ⟨w2, w1, ks0, ks0, rws2, rws1, ls2, ls1, rfl, s25.f (vwF w2 ks0 rws2 ls2) (.tail _ (.head _)), s25.f (vwF w1 ks0 rws1 ls1) (.tail _ (.tail _ (.head _))), by omega, by omega, by omega, by omega, fun v' H6 s6 hv6 => ?_⟩
    walk_at "di"
    refine wo_neS1 (hv5.same s6).dp hv6.dp sh4 ?_
    walk_at "di"
    exact ⟨rfl, s25.same s6⟩
  clear s2
  rintro σ' H2 ⟨rfl, s2⟩
  walk_at "dn"
  -- mate, heap
  refine ⟨fun σ' H3 => σ' = [some (.ref b), some (.ref kl), some (.ref nl), some (.ref w1), some (.ref w2), some (.ref li), some (.ref A1.a), some (.ref A2.a), some (.ref A3.a), some (.ref A4.a), some (.ref A5.a), some (.int (many : Nat)), some (.ref A6.a), some (.ref dv), c14, none, none, none, none, none] ∧ SS (E1 Γ) H [b] H3 [vwF dv ks0 (rep rws1 many) dl, vwF w2 ks0 rws2 ls2, vwF w1 ks0 rws1 ls1] [tbR C A6 B6, tbR C A5 B5, tbR C A4 B4, tbR C A3 B3, tbR C A2 B2, tbR C A1 B1, boxR b (n + 998), lstR kl (ks.map V.str), lstR nl (nm.map V.str)], ?_, ?_⟩
  · have t5 : TbP Γ.K C A5 B5 H2 := s2.tb (.tail _ (.head _))
    have t6 : TbP Γ.K C A6 B6 H2 := s2.tb (.head _)
    have o1 : VwP Γ.K H2 w1 ks0 rws1 ls1 := s2.f (vwF w1 ks0 rws1 ls1) (.tail _ (.tail _ (.head _)))
    have od : VwP Γ.K H2 dv ks0 (rep rws1 many) dl := s2.f (vwF dv ks0 (rep rws1 many) dl) (.head _)
    refine tv_go m_view (by omega) t5 f5 (by omega) fun p H3 s3 hv => ?_
    walk_at "di"
    refine wo_neS1 hv.dp (o1.same s3).dp sh1 ?_
    walk_at "di"
    refine tv_go m_view (by omega) (t6.same s3) f6 (by omega) fun p' H4 s4 hv' => ?_
    walk_at "di"
    refine wo_neS1 hv'.dp (od.same (s3.trans s4)).dp sh6 ?_
    walk_at "di"
    exact ⟨rfl, s2.same (s3.trans s4)⟩
  clear s2
  rintro σ' H2 ⟨rfl, s2⟩
  walk_at "dn"
  -- the first one is changed
  have rows_ : ∀ {H' : Hp} {w : Addr} {r : List Rw} {l : List Lk} {R : VK}, VwP Γ.K H' w ks0 r l → R (.int r.length) H' → G.WX (Γ.at 199) (.ref w) (.int 1) H' fun x H1 => cLen (Γ.at 199) [x] H1 R := fun {H'} {w} {r} {l} {R} hv k => by
    obtain ⟨pk, pf, pl, fts, lts, h1, h2, h3, h4, h5, h6⟩ := hv.ex
    refine wx_t h1 (v := .ref pf) (atG (j := 1) rfl rfl) (wc_len_t h3 ?_)
    rw [List.length_map, h4.len]
    exact k
  refine ⟨fun σ' H3 => ∃ B1' : Tb, σ' = [some (.ref b), some (.ref kl), some (.ref nl), some (.ref w1), some (.ref w2), some (.ref li), some (.ref A1.a), some (.ref A2.a), some (.ref A3.a), some (.ref A4.a), some (.ref A5.a), some (.int (many : Nat)), some (.ref A6.a), some (.ref dv), c14, none, none, none, none, none] ∧ SS (E1 Γ) H [b] H3 [vwF dv ks0 (rep rws1 many) dl, vwF w2 ks0 rws2 ls2, vwF w1 ks0 rws1 ls1] [tbR C A6 B6, tbR C A5 B5, tbR C A4 B4, tbR C A3 B3, tbR C A2 B2, tbR C A1 B1', boxR b (n + 998), lstR kl (ks.map V.str), lstR nl (nm.map V.str)], ?_, ?_⟩
  · have t1 : TbP Γ.K C A1 B1 H2 := s2.tb (.tail _ (.tail _ (.tail _ (.tail _ (.tail _ (.head _))))))
    have o1 : VwP Γ.K H2 w1 ks0 rws1 ls1 := s2.f (vwF w1 ks0 rws1 ls1) (.tail _ (.tail _ (.head _)))
    obtain ⟨ek1, er1, fL1, fT1⟩ := f1
    refine rows_ o1 ⟨A1, B1, by rw [er1], t1, fL1, by rw [er1]; omega, fun u h => (nmu u (i1 (by rw [← er1]; exact h))).2, by rw [ek1]; exact lk1, fun B1' H3 f3' t3 el ek L3 => ?_⟩
    have s3 := s2.tbU (T' := B1') (.next (.next (.next (.next (.next .here))))) f3' t3
    walk_at "di"
    have f1' := L3.tv t3.ka.nd (by rw [ek, ek1]; omega) (by rw [el, er1]; omega)
    have o1' : VwP Γ.K H3 w1 ks0 rws1 ls1 := s3.f (vwF w1 ks0 rws1 ls1) (.tail _ (.tail _ (.head _)))
    refine tv_go m_view (by omega) t3 f1' (by rw [el, er1]; omega) fun p H4 s4 hv => ?_
    walk_at "di"
    refine wo_eqD hv.dp (o1'.same s4).dp (f1'.sh (fun k hk => nm0 k (by rw [← ek1, ← ek]; exact hk)) fun u hu' k hk => (t3.ra u hu').ok k hk) sh1 ?_
    rw [eqv_vw (by rw [el, er1]; omega)]
    walk_at "di"
    exact ⟨B1', rfl, s3.same s4⟩
  clear s2 f1
  rintro σ' H2 ⟨B1', rfl, s2⟩
  walk_at "dn"
  -- nothing else has changed
  have canOf : ∀ {d : PyData}, SeqAt.shaped d = true → d.canLay0 = true := fun h => (Bool.and_eq_true_iff.mp h).1
  refine ⟨fun σ' H3 => σ' = [some (.ref b), some (.ref kl), some (.ref nl), some (.ref w1), some (.ref w2), some (.ref li), some (.ref A1.a), some (.ref A2.a), some (.ref A3.a), some (.ref A4.a), some (.ref A5.a), some (.int (many : Nat)), some (.ref A6.a), some (.ref dv), c14, none, none, none, none, none] ∧ SS (E1 Γ) H [b] H3 [vwF dv ks0 (rep rws1 many) dl, vwF w2 ks0 rws2 ls2, vwF w1 ks0 rws1 ls1] [tbR C A6 B6, tbR C A5 B5, tbR C A4 B4, tbR C A3 B3, tbR C A2 B2, tbR C A1 B1', boxR b (n + 998), lstR kl (ks.map V.str), lstR nl (nm.map V.str)], ?_, ?_⟩
  · have t6 : TbP Γ.K C A6 B6 H2 := s2.tb (.head _)
    have t5 : TbP Γ.K C A5 B5 H2 := s2.tb (.tail _ (.head _))
    have t3 : TbP Γ.K C A3 B3 H2 := s2.tb (.tail _ (.tail _ (.tail _ (.head _))))
    have t2 : TbP Γ.K C A2 B2 H2 := s2.tb (.tail _ (.tail _ (.tail _ (.tail _ (.head _)))))
    have o1 : VwP Γ.K H2 w1 ks0 rws1 ls1 := s2.f (vwF w1 ks0 rws1 ls1) (.tail _ (.tail _ (.head _)))
    have o2 : VwP Γ.K H2 w2 ks0 rws2 ls2 := s2.f (vwF w2 ks0 rws2 ls2) (.tail _ (.head _))
    have od : VwP Γ.K H2 dv ks0 (rep rws1 many) dl := s2.f (vwF dv ks0 (rep rws1 many) dl) (.head _)
    refine tv_go m_view (by omega) t3 f3 (by rw [List.length_append]; omega) fun x1 H3 s3 hx1 => ?_
    refine tv_go m_view (by omega) (t5.same s3) f5 (by omega) fun x2 H4 s4 hx2 => ?_
    have s34 := s3.trans s4
    refine tv_go m_view (by omega) (t6.same s34) f6 (by omega) fun x3 H5 s5 hx3 => ?_
    have s35 := s34.trans s5
    refine tv_go m_view (by omega) (t2.same s35) f2 (by omega) fun x4 H6 s6 hx4 => ?_
    have s36 := s35.trans s6
    refine ⟨szl (by simp only [List.length_cons, List.length_nil]; omega), fun q1 g1 => ?_⟩
    have sg1 := Same.mk (o := .lst [.ref x1, .ref x2, .ref x3, .ref x4]) g1
    have s37 := s36.trans sg1
    have cq1 : upd H6 q1 (.lst [.ref x1, .ref x2, .ref x3, .ref x4]) q1 = _ := upd_same
    refine ⟨w1, w2, ks0, ks0, rws1, rws2, ls1, ls2, rfl, o1.same s37, o2.same s37, by omega, by omega, by omega, by omega, fun v H8 s8 hv => ?_⟩
    have s38 := s37.trans s8
    refine ⟨szl (by simp only [List.length_cons, List.length_nil]; omega), fun q2 g2 => ?_⟩
    have sg2 := Same.mk (o := .lst [.ref v, .ref w1, .ref dv, .ref w2]) g2
    have s39 := s38.trans sg2
    have s89 := s8.trans sg2
    refine wo_neS1 (d := .list [vwD ks0 (rws1 ++ rws2) ((ls1 ++ mv rws1.length ls2).mergeSort lkLe), vwD ks0 rws1 ls1, vwD ks0 (rep rws1 many) dl, vwD ks0 rws2 ls2])
      (.lst (SqL.of (s89 _ _ cq1)) (.cons (hx1.same (((s4.trans s5).trans s6).trans (sg1.trans s89))).dp (.cons (hx2.same ((s5.trans s6).trans (sg1.trans s89))).dp (.cons (hx3.same (s6.trans (sg1.trans s89))).dp (.cons (hx4.same (sg1.trans s89)).dp .nil)))))
      (.lst (SqL.of upd_same) (.cons (hv.same sg2).dp (.cons (o1.same s39).dp (.cons (od.same s39).dp (.cons (o2.same s39).dp .nil))))) ?_ ?_
    · refine shaped_of ?_ ?_
      · simp only [PyData.canLay0]
        refine canAll fun d hd => ?_
        rcases List.mem_cons.mp hd with rfl | hd
        · exact canOf sh3
        rcases List.mem_cons.mp hd with rfl | hd
        · exact canOf sh1
        rcases List.mem_cons.mp hd with rfl | hd
        · exact canOf sh6
        · rw [List.mem_singleton.mp hd]; exact canOf sh2
      · simp only [PyData.depth]
        have := depAll (ds := [vwD ks0 (rws1 ++ rws2) ((ls1 ++ mv rws1.length ls2).mergeSort lkLe), vwD ks0 rws1 ls1, vwD ks0 (rep rws1 many) dl, vwD ks0 rws2 ls2]) (n := 5) fun d hd => by
          rcases List.mem_cons.mp hd with rfl | hd
          · exact dep_vw
          rcases List.mem_cons.mp hd with rfl | hd
          · exact dep_vw
          rcases List.mem_cons.mp hd with rfl | hd
          · exact dep_vw
          · rw [List.mem_singleton.mp hd]; exact dep_vw
        omega
    walk_at "di"
    exact ⟨rfl, s2.same s39⟩
  clear s2
  rintro σ' H2 ⟨rfl, s2⟩
  walk_at "dn"
  -- the joint table is changed
  refine ⟨fun σ' H3 => ∃ B3' : Tb, σ' = [some (.ref b), some (.ref kl), some (.ref nl), some (.ref w1), some (.ref w2), some (.ref li), some (.ref A1.a), some (.ref A2.a), some (.ref A3.a), some (.ref A4.a), some (.ref A5.a), some (.int (many : Nat)), some (.ref A6.a), some (.ref dv), c14, none, none, none, none, none] ∧ SS (E1 Γ) H [b] H3 [vwF dv ks0 (rep rws1 many) dl, vwF w2 ks0 rws2 ls2, vwF w1 ks0 rws1 ls1] [tbR C A6 B6, tbR C A5 B5, tbR C A4 B4, tbR C A3 B3', tbR C A2 B2, tbR C A1 B1', boxR b (n + 998), lstR kl (ks.map V.str), lstR nl (nm.map V.str)], ?_, ?_⟩
  · have t3 : TbP Γ.K C A3 B3 H2 := s2.tb (.tail _ (.tail _ (.tail _ (.head _))))
    have o1 : VwP Γ.K H2 w1 ks0 rws1 ls1 := s2.f (vwF w1 ks0 rws1 ls1) (.tail _ (.tail _ (.head _)))
    have o2 : VwP Γ.K H2 w2 ks0 rws2 ls2 := s2.f (vwF w2 ks0 rws2 ls2) (.tail _ (.head _))
    obtain ⟨ek3, er3, fL3, fT3⟩ := f3
    refine rows_ o1 (rows_ o2 ?_)
    walk_at "di"
    refine ⟨A3, B3, by rw [er3, List.length_append, Int.natCast_add], t3, fL3, by rw [er3, List.length_append]; omega, fun u h => (nmu u (by rw [← er3]; exact h)).2, by rw [ek3]; exact lk1, fun B3' H3 f3' t3' el ek L3 => ?_⟩
    have s3 := s2.tbU (T' := B3') (.next (.next (.next .here))) f3' t3'
    walk_at "di"
    have t2 : TbP Γ.K C A2 B2 H3 := s3.tb (.tail _ (.tail _ (.tail _ (.tail _ (.head _)))))
    have t5 : TbP Γ.K C A5 B5 H3 := s3.tb (.tail _ (.head _))
    have o1' : VwP Γ.K H3 w1 ks0 rws1 ls1 := s3.f (vwF w1 ks0 rws1 ls1) (.tail _ (.tail _ (.head _)))
    have o2' : VwP Γ.K H3 w2 ks0 rws2 ls2 := s3.f (vwF w2 ks0 rws2 ls2) (.tail _ (.head _))
    refine tv_go m_view (by omega) t2 f2 (by omega) fun p H4 s4 hv => ?_
    walk_at "di"
    refine wo_neS1 hv.dp (o2'.same s4).dp sh2 ?_
    walk_at "di"
    refine tv_go m_view (by omega) (t5.same s4) f5 (by omega) fun p' H5 s5 hv' => ?_
    walk_at "di"
    refine wo_neS1 hv'.dp (o1'.same (s4.trans s5)).dp sh1 ?_
    walk_at "di"
    exact ⟨B3', rfl, s3.same (s4.trans s5)⟩
  clear s2 f3
  rintro σ' H2 ⟨B3', rfl, s2⟩
  walk_at "dn"
  -- strange kinds
  have c2_ : SS (E1 Γ) H [b] H2 [vwF dv ks0 (rep rws1 many) dl, vwF w2 ks0 rws2 ls2, vwF w1 ks0 rws1 ls1] [tbR C A2 B2, boxR b (n + 998), lstR kl (ks.map V.str), lstR nl (nm.map V.str)] := s2.subl (.cons _ (.cons _ (.cons _ (.cons _ (.cons_cons _ (.cons _ (.refl _)))))))
  clear s2 f4 f5 f6 sh3 sh4 sh6 hdl pwd
  refine ⟨fun σ' H3 => ∃ (sl : Addr) (zs : List Str), σ' = [some (.ref b), some (.ref kl), some (.ref nl), some (.ref w1), some (.ref w2), some (.ref li), some (.ref A1.a), some (.ref A2.a), some (.ref A3.a), some (.ref A4.a), some (.ref A5.a), some (.int (many : Nat)), some (.ref A6.a), some (.ref dv), c14, some (.ref sl), none, none, none, none] ∧ Same H2 H3 ∧ H3 sl = some (.lst (zs.map V.str)) ∧ zs.Nodup ∧ 4 ≤ zs.length ∧ zs.length ≤ 7 ∧ ∀ z ∈ zs, Nm z ∧ z ∉ ks, ?_, ?_⟩
  · refine ⟨szl (by simp only [List.length_cons, List.length_nil]; omega), fun p hp => ⟨p, rfl, ⟨_, SqL.of upd_same⟩, fun D hD => ?_⟩⟩
    obtain ⟨gs, hgs⟩ : ∃ gs : List Str, gs = [Str.ofString "a", Str.ofString "b", Str.ofString "c", Str.ofString "d", Str.ofString "e", Str.ofString "f", Str.ofString "g"] := ⟨_, rfl⟩
    have hp2 : upd H2 p (.lst [.str "a", .str "b", .str "c", .str "d", .str "e", .str "f", .str "g"]) p = some (.lst (gs.map V.str)) := by rw [hgs]; exact upd_same
    have sp := Same.mk (o := .lst [.str "a", .str "b", .str "c", .str "d", .str "e", .str "f", .str "g"]) hp
    have ndg : gs.Nodup := by rw [hgs]; decide +kernel
    have nmg : ∀ z ∈ gs, Nm z := by rw [hgs]; unfold Nm; decide +kernel
    have lg : gs.length = 7 := by rw [hgs]; rfl
    clear hgs
    generalize upd H2 p (.lst [.str "a", .str "b", .str "c", .str "d", .str "e", .str "f", .str "g"]) = H2p at hD hp2 sp ⊢
    have ckl : H2p kl = some (.lst (ks.map V.str)) := sp _ _ (c2_.cell (p := kl) (b := false) (.tail _ (.tail _ (.head _))))
    refine lq_it (walk_list (xs := gs.map V.str)) (fun j acc H' => SS (E := E1 Γ) H2p [] H' [] [lstR D acc] ∧ acc = ((gs.take j).filter fun z => decide (z ∉ ks)).map V.str) ⟨SS.start0.newC (o := .lst []) hD (fun z => z), rfl⟩ (fun _ _ _ _ h => SqL.of (h.1.fr.same _ _ hp2)) ?_ ?_
    · rintro j x acc H3 H4 hj hl2 ⟨s, ha⟩ ⟨rfl, hx2⟩
      have hx3 : (gs.map V.str)[j]? = some x := hx2
      rw [List.getElem?_map] at hx3
      obtain ⟨z, hz, rfl⟩ := Option.map_eq_some_iff.mp hx3
      rw [List.length_map] at hj
      walk_at "dn"
      have htk : gs.take (j + 1) = gs.take j ++ [z] := by rw [List.take_add_one, hz]; rfl
      refine ⟨rfl, wo_niS (.inl (SqL.of (s.fr.same _ _ ckl))) ?_⟩
      walk_at "di"
      by_cases hin : z ∈ ks
      · refine br_nt hin ⟨_, Nat.le_trans hl2 (Nat.le_succ _), s, ?_⟩
        rw [htk, List.filter_append, ha]
        simp [hin]
      · refine br_nf hin (lq_add s hl2 (lt_size (by omega)) ⟨_, lq_len hl2, s.app, ?_⟩)
        rw [htk, List.filter_append, ha]
        simp [hin]
    · rintro acc H3 hl2 ⟨s, ha⟩
      rw [List.length_map, List.take_length] at ha
      subst ha
      refine ⟨D, _, rfl, sp.trans s.fr.same, s.cell (.head _), ndg.filter _, ?_, by have := List.length_filter_le (fun z => decide (z ∉ ks)) gs; omega, fun z hz => ?_⟩
      · have := nodup_len gs (gs.filter (fun z => decide (z ∉ ks)) ++ ks) ndg fun z hz => by
          by_cases h : z ∈ ks
          · exact List.mem_append_right _ h
          · exact List.mem_append_left _ (List.mem_filter.mpr ⟨hz, by simpa using h⟩)
        rw [List.length_append] at this
        omega
      · obtain ⟨h1, h2⟩ := List.mem_filter.mp hz
        exact ⟨nmg z h1, by simpa using h2⟩
  have t2 : TbP Γ.K C A2 B2 H2 := c2_.tb (.head _)
  have o1 : VwP Γ.K H2 w1 ks0 rws1 ls1 := c2_.f (vwF w1 ks0 rws1 ls1) (.tail _ (.tail _ (.head _)))
  have o2 : VwP Γ.K H2 w2 ks0 rws2 ls2 := c2_.f (vwF w2 ks0 rws2 ls2) (.tail _ (.head _))
  have ckl : H2 kl = some (.lst (ks.map V.str)) := c2_.cell (p := kl) (b := false) (.tail _ (.tail _ (.head _)))
  have bx := c2_.box (.tail _ (.head _))
  have fr2 := c2_.fr
  have bxS : ∀ {H' : Hp}, Same H2 H' → Box b (n + 998) H' := fun s => by
    obtain ⟨i, j, k, h, r⟩ := bx
    exact ⟨i, j, k, s _ _ h, r⟩
  clear c2_
  have unl : ∀ {A : TAd} {B : Tb} {H' : Hp} {R : VK} {zs' : List Str}, TbP Γ.K C A B H' → (∀ z, z ∈ B.ks ↔ z ∈ zs') → (∀ z ∈ zs', Nm z) → (∃ z, ¬ (z ∈ zs' ↔ z ∈ ks)) → TbP Γ.K C A2 B2 H' → (∀ H2, Same H' H2 → R (.bl true) H2) → spUnlike Γ.K C [.ref A2.a, .ref A.a] H' R E0 ∧ spUnlike Γ.K C [.ref A.a, .ref A2.a] H' R E0 := fun {A} {B} {H'} {R} {zs'} t rk nz ⟨z, hz⟩ t2 k => by
    have ne : B2.ks ≠ B.ks := fun e => hz (by rw [← rk z, ← e, f2.1]; exact hk' z)
    have n2 : ∀ k ∈ B2.ks, Nm k := fun k hk => nm0 k (by rw [← f2.1]; exact hk)
    have n1 : ∀ k ∈ B.ks, Nm k := fun k hk => nz k ((rk k).mp hk)
    exact ⟨⟨A2, A, B2, B, rfl, t2, t, ne, n2, n1, k⟩, ⟨A, A2, B, B2, rfl, t, t2, Ne.symm ne, n1, n2, k⟩⟩
  rintro σ' H3 ⟨sl, zs, rfl, s3, hsl, ndz, lz4, lz7, hz⟩
  walk_at "dn"
  obtain ⟨z0, zr, rfl⟩ : ∃ z0 zr, zs = z0 :: zr := by
    cases zs with
    | nil => simp at lz4
    | cons x y => exact ⟨x, y, rfl⟩
  have hz0 := hz z0 (.head _)
  -- two that are strange
  refine ⟨fun σ' H4 => σ' = [some (.ref b), some (.ref kl), some (.ref nl), some (.ref w1), some (.ref w2), some (.ref li), some (.ref A1.a), some (.ref A2.a), some (.ref A3.a), some (.ref A4.a), some (.ref A5.a), some (.int (many : Nat)), some (.ref A6.a), some (.ref dv), c14, some (.ref sl), none, none, none, none] ∧ Same H3 H4, ?_, ?_⟩
  · refine wx_l (SqL.of hsl) (v := .str z0) (at_nat (i := 0) rfl) ⟨szl (by simp only [List.length_cons, List.length_nil]; omega), fun p hp => ?_⟩
    have sp := Same.mk (o := .lst [.str z0]) hp
    refine mk1_go (zs := [z0]) hd1 hd2 (SqL.of upd_same) (fun z h => by rw [List.mem_singleton.mp h]; exact hz0.1) (List.nodup_cons.mpr ⟨List.not_mem_nil, .nil⟩) (by simp) fun A B H4 s4 new t rk _ => ?_
    have s34 := sp.trans s4
    refine (unl t rk (fun z h => by rw [List.mem_singleton.mp h]; exact hz0.1) ⟨z0, fun e => hz0.2 (e.mp (.head _))⟩ (t2.same (s3.trans s34)) fun H5 s5 => ?_).1
    walk_at "di"
    have s35 := s34.trans s5
    refine wl_l (SqL.of (s35 _ _ hsl)) fun pk hpk => ?_
    rw [show cutV ((z0 :: zr).map V.str) none (some 2) = ((z0 :: zr).take 2).map V.str from by rw [show (some (2 : Int)) = some ((2 : Nat) : Int) from rfl, cut_to, List.map_take]]
    have sk := Same.mk (o := .lst (((z0 :: zr).take 2).map V.str)) hpk
    refine mk1_go (zs := (z0 :: zr).take 2) hd1 hd2 (SqL.of upd_same) (fun z h => (hz z (List.mem_of_mem_take h)).1) (ndz.sublist (List.take_sublist _ _)) (by rw [List.length_take]; omega) fun A' B' H6 s6 new' t' rk' _ => ?_
    have s36 := s35.trans (sk.trans s6)
    refine (unl t' rk' (fun z h => (hz z (List.mem_of_mem_take h)).1) ⟨z0, fun e => hz0.2 (e.mp (.head _))⟩ (t2.same (s3.trans s36)) fun H7 s7 => ?_).2
    walk_at "di"
    exact ⟨rfl, s36.trans s7⟩
  rintro σ' H4 ⟨rfl, s4⟩
  walk_at "dn"
  -- one kind more, one less
  have nm27 : ∀ z ∈ ks.take 2 ++ [z0], Nm z := fun z h => by
    rcases List.mem_append.mp h with h | h
    · exact nmk z (List.mem_of_mem_take h)
    · rw [List.mem_singleton.mp h]; exact hz0.1
  refine ⟨fun σ' H5 => ∃ (A7 A8 : TAd) (B7 B8 : Tb), σ' = [some (.ref b), some (.ref kl), some (.ref nl), some (.ref w1), some (.ref w2), some (.ref li), some (.ref A1.a), some (.ref A2.a), some (.ref A3.a), some (.ref A4.a), some (.ref A5.a), some (.int (many : Nat)), some (.ref A6.a), some (.ref dv), c14, some (.ref sl), some (.ref A7.a), some (.ref A8.a), none, none] ∧ Same H4 H5 ∧ TbP Γ.K C A7 B7 H5 ∧ TbP Γ.K C A8 B8 H5 ∧ (∀ z, z ∈ B7.ks ↔ z ∈ ks.take 2 ++ [z0]) ∧ ∀ z, z ∈ B8.ks ↔ z ∈ ks.drop 1, ?_, ?_⟩
  · refine wl_l (SqL.of ((s3.trans s4) _ _ ckl)) fun pk hpk => ?_
    rw [show cutV (ks.map V.str) none (some 2) = (ks.take 2).map V.str from by rw [show (some (2 : Int)) = some ((2 : Nat) : Int) from rfl, cut_to, List.map_take]]
    have sk := Same.mk (o := .lst ((ks.take 2).map V.str)) hpk
    refine wx_l (SqL.of (sk _ _ (s4 _ _ hsl))) (v := .str z0) (at_nat (i := 0) rfl) ⟨szl (by simp only [List.length_cons, List.length_nil]; omega), fun p hp => ?_⟩
    have sp := Same.mk (o := .lst [.str z0]) hp
    refine wo_cat (sp _ _ upd_same) upd_same (szl (by rw [List.length_map, List.length_take]; simp only [List.length_cons, List.length_nil]; omega)) fun p2 hp2 => ?_
    rw [show (ks.take 2).map V.str ++ [V.str z0] = (ks.take 2 ++ [z0]).map V.str from by rw [List.map_append]; rfl]
    have sp2 := Same.mk (o := .lst ((ks.take 2 ++ [z0]).map V.str)) hp2
    have s5 := (sk.trans sp).trans sp2
    refine mk1_go (zs := ks.take 2 ++ [z0]) hd1 hd2 (SqL.of upd_same) nm27 ?_ (by rw [List.length_append, List.length_take, List.length_singleton]; omega) fun A7 B7 H6 s6 new7 t7 rk7 _ => ?_
    · refine List.nodup_append.mpr ⟨ndk.sublist (List.take_sublist _ _), List.nodup_cons.mpr ⟨List.not_mem_nil, .nil⟩, fun u hu' v hv e => ?_⟩
      rw [List.mem_singleton.mp hv] at e
      exact hz0.2 (by rw [← e]; exact List.mem_of_mem_take hu')
    have s56 := s5.trans s6
    refine wl_l (SqL.of (((s3.trans s4).trans s56) _ _ ckl)) fun pk2 hpk2 => ?_
    rw [show cutV (ks.map V.str) (some 1) none = (ks.drop 1).map V.str from by rw [show (some (1 : Int)) = some ((1 : Nat) : Int) from rfl, cut_from, List.map_drop]]
    have sk2 := Same.mk (o := .lst ((ks.drop 1).map V.str)) hpk2
    refine mk1_go (zs := ks.drop 1) hd1 hd2 (SqL.of upd_same) (fun z h => nmk z (List.mem_of_mem_drop h)) (ndk.sublist (List.drop_sublist _ _)) (by rw [List.length_drop]; omega) fun A8 B8 H7 s7 new8 t8 rk8 _ => ?_
    exact ⟨A7, A8, B7, B8, rfl, (s56.trans sk2).trans s7, t7.same (sk2.trans s7), t8, rk7, rk8⟩
  rintro σ' H5 ⟨A7, A8, B7, B8, rfl, s5, t7, t8, rk7, rk8⟩
  walk_at "dn"
  have s25 := (s3.trans s4).trans s5
  refine ⟨fun σ' H6 => σ' = [some (.ref b), some (.ref kl), some (.ref nl), some (.ref w1), some (.ref w2), some (.ref li), some (.ref A1.a), some (.ref A2.a), some (.ref A3.a), some (.ref A4.a), some (.ref A5.a), some (.int (many : Nat)), some (.ref A6.a), some (.ref dv), c14, some (.ref sl), some (.ref A7.a), some (.ref A8.a), none, none] ∧ Same H5 H6, ?_, ?_⟩
  · have nd : ∃ z, ¬ (z ∈ ks.take 2 ++ [z0] ↔ z ∈ ks) := ⟨z0, fun e => hz0.2 (e.mp (List.mem_append_right _ (.head _)))⟩
    refine (unl t7 rk7 nm27 nd (t2.same s25) fun H6 s6 => ?_).2
    walk_at "di"
    refine (unl (t7.same s6) rk7 nm27 nd (t2.same (s25.trans s6)) fun H7 s7 => ?_).1
    walk_at "di"
    exact ⟨rfl, s6.trans s7⟩
  rintro σ' H6 ⟨rfl, s6⟩
  walk_at "dn"
  refine ⟨fun σ' H7 => σ' = [some (.ref b), some (.ref kl), some (.ref nl), some (.ref w1), some (.ref w2), some (.ref li), some (.ref A1.a), some (.ref A2.a), some (.ref A3.a), some (.ref A4.a), some (.ref A5.a), some (.int (many : Nat)), some (.ref A6.a), some (.ref dv), c14, some (.ref sl), some (.ref A7.a), some (.ref A8.a), none, none] ∧ Same H6 H7, ?_, ?_⟩
  · have s26 := s25.trans s6
    have nmd : ∀ z ∈ ks.drop 1, Nm z := fun z h => nmk z (List.mem_of_mem_drop h)
    have nd : ∃ z, ¬ (z ∈ ks.drop 1 ↔ z ∈ ks) := by
      cases ks with
      | nil => simp at k1
      | cons x xs => exact ⟨x, fun e => (List.nodup_cons.mp ndk).1 (e.mpr (.head _))⟩
    refine (unl (t8.same s6) rk8 nmd nd (t2.same s26) fun H7 s7 => ?_).2
    walk_at "di"
    refine (unl (t8.same (s6.trans s7)) rk8 nmd nd (t2.same (s26.trans s7)) fun H8 s8 => ?_).1
    walk_at "di"
    exact ⟨rfl, s7.trans s8⟩
  rintro σ' H7 ⟨rfl, s7⟩
  walk_at "dn"
  -- nothing beside a table, no copies
  have s27 := (s25.trans s6).trans s7
  refine mk1_go (zs := ks) hd1 hd2 (SqL.of (s27 _ _ ckl)) nmk ndk (by omega) fun A9 B9 H8 s8 new9 t9 rk9 tv9 => ?_
  have f9 := tv9 ks0 asc hk'
  have s28 := s27.trans s8
  walk_at "dn"
  refine bes_go t9 (t2.same s28) f9 f2 nm0 (by omega) (by simp) (by omega) (fun u h => h60 u (i2 h)) (fun u h => asu u (i2 h)) (by simp) (by omega) fun A3' B3'' H9 s9 new3 t3 f3 => ?_
  have e2 : (([] : List Lk) ++ mv ([] : List Rw).length ls2).mergeSort lkLe = ls2 := by
    have e : mv ([] : List Rw).length ls2 = ls2 := by
      unfold mv
      exact List.map_id _
    rw [List.nil_append, e]
    have nd2 := f2.2.2.2.rel.nd
    exact lks_eq (lpw_sort _) pw2 ((sort_perm _).nodup_iff.mpr nd2) nd2 fun e => (sort_perm _).mem_iff
  rw [e2, List.nil_append] at f3
  have s29 := s28.trans s9
  refine tv_go m_view (by omega) t3 f3 (by omega) fun p H10 s10 hv => ?_
  walk_at "di"
  have s210 := s29.trans s10
  refine wo_eqS1 hv.dp (o2.same s210).dp sh2 ?_
  walk_at "di"
  refine cps_go (c := 0) (t2.same s210) f2 nm0 (by omega) (by omega) (by decide) (fun u h => h60 u (i2 h)) (fun u h => asu u (i2 h)) (by omega) fun A' B' H11 s11 new' t' f' => ?_
  have f0 := f' [] (.refl _) .nil
  have s211 := s210.trans s11
  refine tv_go m_view (by omega) t' f0 (by simp [rep]) fun p' H12 s12 hv' => ?_
  have s212 := s211.trans s12
  obtain ⟨pk, pf, pl, fts, lts, h1, h2, h3, h4, h5, h6⟩ := (o1.same s212).ex
  refine wx_t h1 (v := .ref pk) (atG (j := 0) rfl rfl) ⟨szl (by simp only [List.length_nil]; omega), fun e1_ g1 => ⟨szl (by simp only [List.length_nil]; omega), fun e2_ g2 => ⟨szl (by simp only [List.length_cons, List.length_nil]; omega), fun e3_ g3 => ?_⟩⟩⟩
  have sg3 := Same.mk (o := .tup [.ref pk, .ref e1_, .ref e2_]) g3
  have sg := ((Same.mk (o := .tup []) g1).trans (Same.mk (o := .tup []) g2)).trans sg3
  have q1 : SqT Γ.K (upd (upd (upd H12 e1_ (.tup [])) e2_ (.tup [])) e3_ (.tup [.ref pk, .ref e1_, .ref e2_])) e1_ [] := SqT.of (sg3 _ _ (Same.mk g2 _ _ upd_same))
  have q2 : SqT Γ.K (upd (upd (upd H12 e1_ (.tup [])) e2_ (.tup [])) e3_ (.tup [.ref pk, .ref e1_, .ref e2_])) e2_ [] := SqT.of (sg3 _ _ upd_same)
  have due : VwP Γ.K _ e3_ ks0 [] [] := ⟨pk, e1_, e2_, [], [], SqT.of upd_same, sqS sg h2, q1, ⟨rfl, fun i t r a => by simp at a⟩, q2, ⟨rfl, fun i t r a => by simp at a⟩⟩
  refine wo_eqS1 (hv'.same sg).dp due.dp (f0.sh nm0 fun u h => nomatch h) ?_
  refine q _ (fr2.trans (Fr.of (s212.trans sg))) ((bxS (s212.trans sg)).less (by omega))
abbrev s_law : Stmt := topS 37
abbrev n_law : List Str := ["_law_script", "_law_slots_so", "_law_k", "_law_box_here", "_law_turn"]
theorem sc_law : FnScope n_law ["_law_script"] (defScope s_law) := ⟨rfl, rfl, rfl, by decide +kernel, rfl, by decide +kernel, by decide +kernel⟩
theorem nm_law : nvB n_law (defScope s_law) 0 "_law_script" = true ∧ nvB n_law (defScope s_law) 1 "_law_slots_so" = true ∧ nvB n_law (defScope s_law) 2 "_law_k" = true ∧ lvB n_law (defScope s_law) 1 "_law_slots_so" = true ∧ lvB n_law (defScope s_law) 2 "_law_k" = true ∧ lvB n_law (defScope s_law) 3 "_law_box_here" = true ∧ gvB (defScope s_law) "_law_box" = true ∧ gvB (defScope s_law) "_law_cells" = true ∧ gvB (defScope s_law) "_law_copied_right" = true ∧ gvB (defScope s_law) "all" = true ∧ gvB (defScope s_law) "len" = true ∧ gvB (defScope s_law) "range" = true := by decide +kernel
theorem cl_law {Γ : Gm} {f : Addr} {fd : FuncData} (dfn : L2.Fun Γ.K "law" "law" s_law f fd) (T : Names Γ) (c_law_copied_right : Cl Γ CX0 30 "_law_copied_right" (spCop Γ.K) []) (c_law_cells : Cl Γ CX0 1 "_law_cells" (spCells Γ.K) []) (c_law_box : Cl Γ CX0 1 "_law_box" (spBox Γ.K) []) (c_law_right : Cl Γ CX0 200 "_law_right" spRight8 []) : FnOk Γ.P Γ.w Γ.K Γ.mg Γ.base CX0 (210) f fd ["_law_script"] (spLaw Γ.K) := by
  refine fun_top dfn sc_law (fun vs H Q E h => ?_) (fun f cdv A outer s H vs Q E hg h => ?_)
  · obtain ⟨a, ns, rfl, _⟩ := h
    rfl
  obtain ⟨a, ns, rfl, hl, hn, q⟩ := h
  have nd := sc_law.nd
  obtain ⟨v0, v1, v2, l1, l2, l3, g__law_box, g__law_cells, g__law_copied_right, g_all, g_len, g_range⟩ := nm_law
  refine ⟨_, (pss_cons (ps_ifB (pt_not (pt_tr hg (pcl0 c_law_copied_right hg (by omega) g__law_copied_right pass0)))
    (pss_one (ps_ret pe_bl))
    pss_nil)
    (C8.pss_cut (pst (i := 1) nd l1 (pcl c_law_cells hg (by omega) g__law_cells pass0 (pa_cons (ps 0 v0) (pa_cons pe_int pa_nil))))
    (pss_cons (ps_for PassesOwn.never rfl (pi_r1 g_range T.n_range (pa_cons (pcb (k_len hg) g_len T.n_len bt_len (pa_cons (ps 1 v1) pa_nil)) pa_nil)) (pgn (i := 2) nd l2)
    (pss_cons (pst (i := 3) nd l3 (pcl c_law_box hg (by omega) g__law_box pass0 (pa_cons (ps 1 v1) (pa_cons (ps 2 v2) pa_nil))))
    (pss_one (ps_ifB (pt_not (pt_tr hg (pcb (WC.ok hg) g_all T.n_all bt_all (pa_cons (pe_lc (own := [("_law_turn", 4)]) rfl nd (pi_r1 g_range T.n_range (pa_cons pe_int pa_nil)) (blkOk_by (N := n_law) (sc := defScope s_law) (by decide +kernel)) (fun _ _ _ _ _ => (pg_name (i := 4) nd rfl (by first | exact .inl rfl | exact .inr rfl))) (fun _ _ _ _ _ => pts_nil) (fun _ _ _ _ _ => (pcl c_law_right hg.blk (by omega) (by rfl) pass0 (pa_cons (psr 3) pa_nil)))) pa_nil))))
    (pss_one (ps_ret pe_bl))
    pss_nil))))
    (pss_one (ps_ret pe_bl))))), ?_⟩
  refine st_start (σ := [some _, none, none, none, none]) rfl ?_
  walk_at "dn"
  refine ⟨rfl, fun H0 s0 => ?_⟩
  walk_at "di"
  replace hl := (Fr.of (S := []) s0).sql hl List.not_mem_nil
  refine ⟨fun σ' H1 => ∃ (p : Addr) (ks : List Int), σ' = [some (.ref a), some (.ref p), none, none, none] ∧ SS (E := E1 Γ) H0 [] H1 [] [lstR p (ks.map V.int)] ∧ ks.length ≤ 3, ?_, ?_⟩
  · exact ⟨a, ns, 3, rfl, hl, hn, by omega, by omega, fun p H1 ks hp s1 hc k1 k3 => ⟨p, ks, rfl, SS.of1 hp s1 hc (fun z => z), k3⟩⟩
  rintro σ' H1 ⟨p, ks, rfl, s1, k3⟩
  walk_at "dn"
  refine wc_len_l (SqL.of (s1.cell (.head _))) ?_
  walk_at "di"
  rw [List.length_map]
  refine ⟨_, rfl, by omega, by omega, ?_⟩
  refine lp_range (fun i σ H' => ∃ c2 c3, σ = [some (.ref a), some (.ref p), c2, c3, none] ∧ SS (E := E1 Γ) H0 [] H' [] [lstR p (ks.map V.int)]) ⟨_, _, rfl, s1⟩ ?_ (fun σ H' ⟨_, _, h, s⟩ => by subst h; exact q H')
  rintro i σ H2 hi ⟨c2, c3, rfl, s2⟩
  have hi2 : i < ks.length := by omega
  walk_at "dn"
  refine ⟨p, ks, i, by simp, SqL.of (s2.cell (.head _)), hi2, by omega, fun pb H3 hpb sh hb => ?_⟩
  have s3 := s2.newR (boxR pb (2 ^ 39)) sh hb (List.nodup_cons.mpr ⟨List.not_mem_nil, List.nodup_nil⟩) (fun a ha => by
    cases ha with
    | head => exact hpb
    | tail _ z => cases z) (fun a ha => by
    cases ha with
    | head => obtain ⟨xs, e⟩ := hb.cell; exact ⟨_, e, fun z => z⟩
    | tail _ z => cases z)
  walk_at "di"
  refine ⟨_, rfl, by decide, by decide, fun D hD => ?_⟩
  refine lq_it walk_range (fun j acc H' => SS (E := E1 Γ) H0 [] H' [] [lstR D acc, boxR pb (2 ^ 39 - 4000 * j), lstR p (ks.map V.int)] ∧ acc = (List.replicate j true).map V.bl) ⟨s3.newC (o := .lst []) hD (fun z => z), rfl⟩ (fun _ _ _ _ _ => trivial) ?_ ?_
  · rintro j x acc H4 H5 hj hl2 ⟨s, ha⟩ ⟨rfl, hx2⟩
    have hj2 : j < 30 := Nat.lt_of_lt_of_le hj (by decide)
    walk_at "dn"
    refine ⟨rfl, pb, 2 ^ 39 - 4000 * (j + 1), rfl, (s.box (by walk_at "mem")).less (by omega), fun H6 f6 b6 => ?_⟩
    have s6 := s.draw (n := 2 ^ 39 - 4000 * (j + 1)) (by walk_at "pick") f6 b6
    refine lq_add s6 hl2 (lt_size (by omega)) ⟨_, lq_len hl2, s6.app, ?_⟩
    rw [ha, List.replicate_succ', List.map_append]
    rfl
  · rintro acc H4 hl2 ⟨s, ha⟩
    subst ha
    refine wc_all (SqL.of (s.cell (.head _))) ?_
    rw [all_rep]
    walk_at "di"
    exact ⟨_, _, rfl, s.drop.drop⟩
def fns : List DE := [
  ⟨fun K => He.ma K (He.ga K "Unlike") "__init__", "__init__", "Unlike.__init__", s_E_Unlike, fun K => [], []⟩,
  ⟨fun K => He.ga K "_law_take", "_law_take", "_law_take", s_take, fun K => [], []⟩,
  ⟨fun K => He.ga K "_law_box", "_law_box", "_law_box", s_box, fun K => [], []⟩,
  ⟨fun K => He.ga K "_law_of", "_law_of", "_law_of", s_of, fun K => [], []⟩,
  ⟨fun K => He.ga K "_law_cells", "_law_cells", "_law_cells", s_cells, fun K => [], []⟩,
  ⟨fun K => He.ga K "_law_pick", "_law_pick", "_law_pick", s_pick, fun K => [], []⟩,
  ⟨fun K => He.ga K "_law_names", "_law_names", "_law_names", s_names, fun K => [], []⟩,
  ⟨fun K => He.ga K "is_name", "is_name", "is_name", s_isname, fun K => [], []⟩,
  ⟨fun K => He.ga K "is_number", "is_number", "is_number", s_isnum2, fun K => [], []⟩,
  ⟨fun K => He.ga K "checked_kinds", "checked_kinds", "checked_kinds", s_chk, fun K => [], []⟩,
  ⟨fun K => pgA K "Table" "kinds", "kinds", "Table.kinds", s_T_kinds, fun K => [], []⟩,
  ⟨fun K => He.ma K (He.ga K "Table") "__len__", "__len__", "Table.__len__", s_T_len, fun K => [], []⟩,
  ⟨fun K => He.ma K (He.ga K "Table") "__contains__", "__contains__", "Table.__contains__", s_T_cont, fun K => [], []⟩,
  ⟨fun K => He.ma K (He.ga K "Table") "need_row", "need_row", "Table.need_row", s_T_needrow, fun K => [], []⟩,
  ⟨fun K => He.ma K (He.ga K "Table") "__getitem__", "__getitem__", "Table.__getitem__", s_T_get, fun K => [], []⟩,
  ⟨fun K => He.ma K (He.ga K "Table") "__setitem__", "__setitem__", "Table.__setitem__", s_T_set, fun K => [], []⟩,
  ⟨fun K => He.ma K (He.ga K "Table") "put", "put", "Table.put", s_T_put, fun K => [], [("x", .int 0)]⟩,
  ⟨fun K => He.ma K (He.ga K "Table") "mark", "mark", "Table.mark", s_T_mark, fun K => [], []⟩,
  ⟨fun K => He.ma K (He.ga K "Table") "view", "view", "Table.view", s_T_view, fun K => [], []⟩,
  ⟨fun K => He.ma K (He.ga K "Table") "need", "need", "Table.need", s_T_need, fun K => [], []⟩,
  ⟨fun K => He.ma K (He.ga K "Table") "link", "link", "Table.link", s_T_link, fun K => [], []⟩,
  ⟨fun K => He.ma K (He.ga K "Table") "cut", "cut", "Table.cut", s_T_cut, fun K => [], []⟩,
  ⟨fun K => He.ma K (He.ga K "Table") "after", "after", "Table.after", s_T_after, fun K => [], []⟩,
  ⟨fun K => He.ma K (He.ga K "Table") "__init__", "__init__", "Table.__init__", s_T_initG, fun K => [.ref (dfA (He.ma K (He.ga K "Table") "__init__") 0 K), .ref (dfA (He.ma K (He.ga K "Table") "__init__") 1 K)], []⟩,
  ⟨fun K => He.ga K "_law_number", "_law_number", "_law_number", s_number, fun K => [], []⟩,
  ⟨fun K => He.ga K "_law_linked", "_law_linked", "_law_linked", s_linked, fun K => [], []⟩,
  ⟨fun K => He.ga K "_law_view", "_law_view", "_law_view", s_lview, fun K => [], []⟩,
  ⟨fun K => He.ga K "beside", "beside", "beside", s_beside, fun K => [], []⟩,
  ⟨fun K => He.ga K "copies", "copies", "copies", s_copies, fun K => [], []⟩,
  ⟨fun K => He.ga K "_law_lists", "_law_lists", "_law_lists", s_lists, fun K => [], []⟩,
  ⟨fun K => He.ma K (He.ga K "Table") "copied", "copied", "Table.copied", s_copied, fun K => [], []⟩,
  ⟨fun K => He.ga K "beside", "beside", "beside", s_besideX, fun K => [], []⟩,
  ⟨fun K => He.ga K "_law_unlike", "_law_unlike", "_law_unlike", s_unlike, fun K => [], []⟩,
  ⟨fun K => He.ga K "_law_shifted", "_law_shifted", "_law_shifted", s_shifted, fun K => [], []⟩,
  ⟨fun K => He.ga K "_law_beside", "_law_beside", "_law_beside", s_lbeside, fun K => [], []⟩,
  ⟨fun K => He.ga K "_law_changed", "_law_changed", "_law_changed", s_lchg, fun K => [], []⟩,
  ⟨fun K => He.ga K "_law_copied_right", "_law_copied_right", "_law_copied_right", s_cop, fun K => [], []⟩,
  ⟨fun K => He.ga K "_law_right", "_law_right", "_law_right", s_right2, fun K => [], []⟩,
  ⟨fun K => He.ga K "law", "law", "law", s_law, fun K => [], []⟩]
def exs : List (PySem.W.Frag → Bool) := [
  okFa (.free "ValueError"),
  okFa (.free "abs"),
  okFa (.free "all"),
  okFa (.free "any"),
  okFa (.free "bool"),
  okFa (.free "chr"),
  okFa (.free "dict"),
  okFa (.free "enumerate"),
  okFa (.free "int"),
  okFa (.free "isinstance"),
  okFa (.free "len"),
  okFa (.free "list"),
  okFa (.free "max"),
  okFa (.free "min"),
  okFa (.free "ord"),
  okFa (.free "range"),
  okFa (.free "reversed"),
  okFa (.free "set"),
  okFa (.free "sorted"),
  okFa (.free "str"),
  okFa (.free "sum"),
  okFa (.free "tuple"),
  okFa (.free "zip"),
  errB "Unlike" ["shown"],
  okFa (.glo "_law_take"),
  okFa (.glo "_law_box"),
  okFa (.glo "_law_of"),
  okFa (.glo "_law_cells"),
  okFa (.glo "_law_pick"),
  okFa (.glo "_law_names"),
  okFa (.glo "is_name"),
  okFa (.glo "is_number"),
  okFa (.glo "checked_kinds"),
  okFa (.cls "Table"),
  propB "Table" "kinds",
  okFa (.meth "Table" "__len__"),
  okFa (.meth "Table" "__contains__"),
  okFa (.meth "Table" "need_row"),
  okFa (.meth "Table" "__getitem__"),
  okFa (.meth "Table" "__setitem__"),
  okFa (.meth "Table" "put"),
  okFa (.meth "Table" "mark"),
  okFa (.meth "Table" "view"),
  okFa (.meth "Table" "need"),
  okFa (.meth "Table" "link"),
  okFa (.meth "Table" "cut"),
  okFa (.meth "Table" "after"),
  okFa (.meth "Table" "__init__"),
  okFa (.glo "_law_number"),
  okFa (.glo "_law_linked"),
  okFa (.glo "_law_view"),
  okFa (.glo "beside"),
  okFa (.glo "copies"),
  okFa (.glo "_law_lists"),
  okFa (.meth "Table" "copied"),
  okFa (.glo "beside"),
  okFa (.glo "_law_unlike"),
  okFa (.glo "_law_shifted"),
  okFa (.glo "_law_beside"),
  okFa (.glo "_law_changed"),
  okFa (.glo "_law_copied_right"),
  okFa (.glo "_law_right"),
  okFa (.glo "law"),
  okFa (.str "LETTERS" LET),
  ktB,
  bmB "Table" "need",
  bmB "Table" "put",
  okFa (.mkr "Table"),
  emTB (fun K => dfA (He.ma K (He.ga K "Table") "__init__") 0 K),
  emTB (fun K => dfA (He.ma K (He.ga K "Table") "__init__") 1 K),
  okFa (.glo "LineError"),
  okFa (.glo "Unlike"),
  okFa (.exm "Unlike" "LineError" true),
  excBx "Unlike",
  kiB "Unlike" "Unlike",
  kiTB "Unlike" "ValueError"]
abbrev R : PySem.W.OpenRow := PySem.W.OpenLaw.row PySem.Challenge.rw_linelooks_k02_tables_made_again
abbrev hk : PySem.W.Hook := hookR 3000 exs fns
def ob (s : PySem.W.SharedT) : AlE := obsRG 3000 exs fns (HandSHeadRun.getT s)
theorem ob_eq (s : PySem.W.SharedT) : ob s = hk.obs s.abs := obsRG_eq (HandSHeadRun.getT_eq s)
def loose : List Str := (["_wall", "__name__", "LineError", "NoName", "Doubled", "NoKind", "NoRow", "Taken", "Ringed", "Loose", "Unlike", "__name__", "LETTERS", "is_number", "is_name", "__name__", "checked_kinds", "Table", "beside", "copies", "__name__", "_law_box", "_law_take", "_law_cells", "_law_of", "_law_pick", "_law_lists", "_law_names", "_law_number", "_law_linked"] : List Str) ++ (["_law_view", "_law_shifted", "_law_beside", "_law_unlike", "_law_changed", "_law_copied_right", "_law_right"] : List Str)
theorem map3 {α β γ δ : Type _} {o : Option α} {f : α → β} {g : α → γ} {h : α → δ} {x : β} {y : γ} {z : δ} (a : o.map f = some x) (b : o.map g = some y) (c : o.map h = some z) : o.map (fun s => (f s, g s, h s)) = some (x, y, z) := by
  cases o with
  | none => cases a
  | some s =>
    obtain rfl : f s = x := by simpa using a
    obtain rfl : g s = y := by simpa using b
    obtain rfl : h s = z := by simpa using c
    rfl
section
open PySem.W HandSHeadRun
theorem run1 (w : World) (os : OsState) : (endF (stepQ (denQ tabQ) R.prog w) 20000 R.prog w os).map (fun s => looksF R.prog (boot_heap w.params) s.abs) = some true := by
  kernel_rfl
theorem run2 (w : World) (os : OsState) : (endF (stepQ (denQ tabQ) R.prog w) 20000 R.prog w os).map (fun s => seenQ (view R.prog [37]) loose (importedModules R.prog.main.body) (fun s => xlAt (view R.prog [37]) [] s && recOk R.toRowW.records s) s.abs) = some (openGood (view R.prog [37]) loose) := by
  kernel_rfl
theorem run3 (w : World) (os : OsState) : (endF (stepQ (denQ tabQ) R.prog w) 20000 R.prog w os).map ob = some (hk.val w) := by
  kernel_rfl
end
theorem run (w : World) : HandSHeadRun.RunEq R (PySem.W.view R.prog [37]) hk ob 20000 loose w := fun os => map3 (run1 w os) (run2 w os) (run3 w os)
theorem put_in {Γ : Gm} {C p : Addr} {a x : V} {ms : List V} {H : Hp} {Q : VK} {E : XK} (h : spPutK Γ.K C (a :: ms) [x] H Q E) (hp : H p = none) : spPut Γ.K C [a, x, .ref p] (upd H p (.tup ms)) Q E := by
  obtain ⟨A, B, x, zs, e1, e2, ht, nm, l, r, q⟩ := h
  cases e1
  cases e2
  exact ⟨A, B, x, p, zs, rfl, ht.same (Same.mk hp), SqT.of upd_same, nm, l, by omega, fun ys H' az hm f t => q ys H' az hm ((Fr.of (Same.mk hp)).trans f) t⟩
theorem put_len {K : PySem.W.Frag} {C : Addr} {vs zs : List V} {H : Hp} {Q : VK} {E : XK} (h : spPutK K C vs zs H Q E) : ∃ a ms x, vs = a :: ms ∧ zs = [x] ∧ ms.length ≤ sizeLine := by
  obtain ⟨A, B, x, zs, e1, e2, ht, nm, l, r, q⟩ := h
  exact ⟨_, _, _, e1, e2, szl (by rw [List.length_map]; omega)⟩
theorem mk_put {Γ : Gm} {C f : Addr} {fd : FuncData} (T : Names Γ) (L : KT Γ C) (c : Cl Γ CX0 1 "is_name" spIsName []) (F : FunD Γ.K "put" "Table.put" (defArgs s_T_put) (defBody s_T_put) (defScope s_T_put) [] [("x", .int 0)] f fd) (cl : Cls Γ.K C) (m : Meth Γ.K C "put" f) : Mk' Γ 2 C "put" ["x"] (spPutK Γ.K C) := by
  refine ⟨f, (fun_kwstar (P := Γ.P) (w := Γ.w) (mg := Γ.mg) (base := Γ.base) (k := 1) (ps := ["self"]) (px := "x") (pv := "marks") (sp := spPut Γ.K C) F sc_T_put (fun kV doc pm an cdv ct us rest v hl => match us, hl, rest with
    | [_], _, [] => rfl
    | [_], _, _ :: _ => rfl) fun cdv A outer s H vs Q E hr h => bd_T_put T L c f cdv A outer s H vs Q E (Good.of hr).nox h).imp (fun vs zs H Q E h => ?_) (Nat.le_refl _), cl, m⟩
  obtain ⟨a, ms, x, rfl, rfl, hl⟩ := put_len h
  exact ⟨[a], ms, x, rfl, rfl, rfl, hl, fun p hp => put_in h hp⟩
theorem mk_put0 {Γ : Gm} {C f : Addr} {fd : FuncData} (T : Names Γ) (L : KT Γ C) (c : Cl Γ CX0 1 "is_name" spIsName []) (F : FunD Γ.K "put" "Table.put" (defArgs s_T_put) (defBody s_T_put) (defScope s_T_put) [] [("x", .int 0)] f fd) (cl : Cls Γ.K C) (m : Meth Γ.K C "put" f) : Mk' Γ 2 C "put" [] (spPut0 Γ.K C) := by
  refine ⟨f, (fun_kwstar0 (P := Γ.P) (w := Γ.w) (mg := Γ.mg) (base := Γ.base) (k := 1) (ps := ["self"]) (px := "x") (pv := "marks") (sp := spPut Γ.K C) F sc_T_put (fun D doc pm an cdv ct us rest v hl => match us, hl, rest with
    | [_], _, [] => ⟨_, _, _, _, _, _, rfl, rfl, rfl⟩
    | [_], _, _ :: _ => ⟨_, _, _, _, _, _, rfl, rfl, rfl⟩) fun cdv A outer s H vs Q E hr h => bd_T_put T L c f cdv A outer s H vs Q E (Good.of hr).nox h).imp (fun vs zs H Q E h => ?_) (Nat.le_refl _), cl, m⟩
  obtain ⟨a, ms, x, rfl, e, hl⟩ := put_len (h : spPutK Γ.K C vs [.int 0] H Q E)
  exact ⟨[a], ms, rfl, rfl, hl, fun p hp => put_in h hp⟩
theorem fnk_put {Γ : Gm} {C f : Addr} {fd : FuncData} (T : Names Γ) (L : KT Γ C) (c : Cl Γ CX0 1 "is_name" spIsName []) (F : FunD Γ.K "put" "Table.put" (defArgs s_T_put) (defBody s_T_put) (defScope s_T_put) [] [("x", .int 0)] f fd) : FnRk Γ.P Γ.w Γ.K Γ.mg Γ.base CX0 2 f ["x"] (spPutK Γ.K C) := by
  refine (fun_kwstar (P := Γ.P) (w := Γ.w) (mg := Γ.mg) (base := Γ.base) (k := 1) (ps := ["self"]) (px := "x") (pv := "marks") (sp := spPut Γ.K C) F sc_T_put (fun kV doc pm an cdv ct us rest v hl => match us, hl, rest with
    | [_], _, [] => rfl
    | [_], _, _ :: _ => rfl) fun cdv A outer s H vs Q E hr h => bd_T_put T L c f cdv A outer s H vs Q E (Good.of hr).nox h).imp (fun vs zs H Q E h => ?_) (Nat.le_refl _)
  obtain ⟨a, ms, x, rfl, rfl, hl⟩ := put_len h
  exact ⟨[a], ms, x, rfl, rfl, rfl, hl, fun p hp => put_in h hp⟩
theorem all_mk {P : Program} {w : World} {K : PySem.W.Frag} {h : Heap} {mg : Str → Option Value} {fa : Addr} (X : K.In h) (N : h.Ns mainGlobals mg) (hfa : mg "law" = some (.ref fa)) (c : SaysE exs fns K) :
    ∃ fd : FuncData, (∀ (s : Shared) (v : Value), BindsTo s fd ⟨[v], []⟩ [("_law_script", v)]) ∧ ∀ base : Heap, K.In base → base.Ns mainGlobals mg → FnOk P w K mg base CX0 210 fa fd ["_law_script"] (spLaw K) := by
  have e0 := hfa.symm.trans (He.glo_ok X N (c.fact 62 rfl))
  obtain ⟨fd_law, F_law⟩ := c.def_ 38 rfl
  cases e0
  have bA := FunD.bindsA (ps := ["_law_script"]) F_law fun _ _ _ _ _ _ us hl => match us, hl with | [_], _ => rfl
  refine ⟨fd_law, fun s v => bA s [v] rfl, fun base _ _ => ?_⟩
  let Γ : Gm := ⟨P, w, K, mg, base, 0⟩
  have T : Names Γ := ⟨He.free_ok X N (c.fact 0 rfl), He.free_ok X N (c.fact 1 rfl), He.free_ok X N (c.fact 2 rfl), He.free_ok X N (c.fact 3 rfl), He.free_ok X N (c.fact 4 rfl), He.free_ok X N (c.fact 5 rfl), He.free_ok X N (c.fact 6 rfl), He.free_ok X N (c.fact 7 rfl), He.free_ok X N (c.fact 8 rfl), He.free_ok X N (c.fact 9 rfl), He.free_ok X N (c.fact 10 rfl), He.free_ok X N (c.fact 11 rfl), He.free_ok X N (c.fact 12 rfl), He.free_ok X N (c.fact 13 rfl), He.free_ok X N (c.fact 14 rfl), He.free_ok X N (c.fact 15 rfl), He.free_ok X N (c.fact 16 rfl), He.free_ok X N (c.fact 17 rfl), He.free_ok X N (c.fact 18 rfl), He.free_ok X N (c.fact 19 rfl), He.free_ok X N (c.fact 20 rfl), He.free_ok X N (c.fact 21 rfl), He.free_ok X N (c.fact 22 rfl)⟩
  obtain ⟨fd_E_Unlike, F_E_Unlike⟩ := c.def_ 0 rfl
  have b_E_Unlike : Binds K fd_E_Unlike ["self"] [] := FunD.bindsN F_E_Unlike fun _ _ _ _ _ _ us hl => match us, hl with | [_], _ => rfl
  obtain ⟨fd_take, F_take⟩ := c.def_ 1 rfl
  have b_take : Binds K fd_take ["_law_box_here", "_law_below"] [] := FunD.bindsN F_take fun _ _ _ _ _ _ us hl => match us, hl with | [_, _], _ => rfl
  have d_take : Dfn Γ "_law_take" s_take ["_law_box_here", "_law_below"] := dfn_of X N (c.fact 24 rfl) F_take b_take
  obtain ⟨fd_box, F_box⟩ := c.def_ 2 rfl
  have b_box : Binds K fd_box ["_law_script", "_law_k"] [] := FunD.bindsN F_box fun _ _ _ _ _ _ us hl => match us, hl with | [_, _], _ => rfl
  have d_box : Dfn Γ "_law_box" s_box ["_law_script", "_law_k"] := dfn_of X N (c.fact 25 rfl) F_box b_box
  obtain ⟨fd_of, F_of⟩ := c.def_ 3 rfl
  have b_of : Binds K fd_of ["_law_box_here", "_law_goods_so"] [] := FunD.bindsN F_of fun _ _ _ _ _ _ us hl => match us, hl with | [_, _], _ => rfl
  have d_of : Dfn Γ "_law_of" s_of ["_law_box_here", "_law_goods_so"] := dfn_of X N (c.fact 26 rfl) F_of b_of
  obtain ⟨fd_cells, F_cells⟩ := c.def_ 4 rfl
  have b_cells : Binds K fd_cells ["_law_script", "_law_most"] [] := FunD.bindsN F_cells fun _ _ _ _ _ _ us hl => match us, hl with | [_, _], _ => rfl
  have d_cells : Dfn Γ "_law_cells" s_cells ["_law_script", "_law_most"] := dfn_of X N (c.fact 27 rfl) F_cells b_cells
  obtain ⟨fd_pick, F_pick⟩ := c.def_ 5 rfl
  have b_pick : Binds K fd_pick ["_law_box_here", "_law_goods_so", "_law_count_so"] [] := FunD.bindsN F_pick fun _ _ _ _ _ _ us hl => match us, hl with | [_, _, _], _ => rfl
  have d_pick : Dfn Γ "_law_pick" s_pick ["_law_box_here", "_law_goods_so", "_law_count_so"] := dfn_of X N (c.fact 28 rfl) F_pick b_pick
  obtain ⟨fd_names, F_names⟩ := c.def_ 6 rfl
  have b_names : Binds K fd_names ["_law_box_here", "_law_many"] [] := FunD.bindsN F_names fun _ _ _ _ _ _ us hl => match us, hl with | [_, _], _ => rfl
  have d_names : Dfn Γ "_law_names" s_names ["_law_box_here", "_law_many"] := dfn_of X N (c.fact 29 rfl) F_names b_names
  obtain ⟨fd_isname, F_isname⟩ := c.def_ 7 rfl
  have b_isname : Binds K fd_isname ["value"] [] := FunD.bindsN F_isname fun _ _ _ _ _ _ us hl => match us, hl with | [_], _ => rfl
  have d_isname : Dfn Γ "is_name" s_isname ["value"] := dfn_of X N (c.fact 30 rfl) F_isname b_isname
  obtain ⟨fd_isnum2, F_isnum2⟩ := c.def_ 8 rfl
  have b_isnum2 : Binds K fd_isnum2 ["value"] [] := FunD.bindsN F_isnum2 fun _ _ _ _ _ _ us hl => match us, hl with | [_], _ => rfl
  have d_isnum2 : Dfn Γ "is_number" s_isnum2 ["value"] := dfn_of X N (c.fact 31 rfl) F_isnum2 b_isnum2
  obtain ⟨fd_chk, F_chk⟩ := c.def_ 9 rfl
  have b_chk : Binds K fd_chk ["kinds"] [] := FunD.bindsN F_chk fun _ _ _ _ _ _ us hl => match us, hl with | [_], _ => rfl
  have d_chk : Dfn Γ "checked_kinds" s_chk ["kinds"] := dfn_of X N (c.fact 32 rfl) F_chk b_chk
  obtain ⟨fd_T_kinds, F_T_kinds⟩ := c.def_ 10 rfl
  have b_T_kinds : Binds K fd_T_kinds ["self"] [] := FunD.bindsN F_T_kinds fun _ _ _ _ _ _ us hl => match us, hl with | [_], _ => rfl
  have d_T_kinds : DfP Γ (He.ga K "Table") "kinds" "Table.kinds" s_T_kinds ["self"] := dfp_of (c.fact 33 rfl) (c.fact 34 rfl) F_T_kinds b_T_kinds
  obtain ⟨fd_T_len, F_T_len⟩ := c.def_ 11 rfl
  have b_T_len : Binds K fd_T_len ["self"] [] := FunD.bindsN F_T_len fun _ _ _ _ _ _ us hl => match us, hl with | [_], _ => rfl
  have d_T_len : DfM Γ (He.ga K "Table") "__len__" "Table.__len__" s_T_len ["self"] := dfm_of (c.fact 33 rfl) (c.fact 35 rfl) F_T_len b_T_len
  obtain ⟨fd_T_cont, F_T_cont⟩ := c.def_ 12 rfl
  have b_T_cont : Binds K fd_T_cont ["self", "row"] [] := FunD.bindsN F_T_cont fun _ _ _ _ _ _ us hl => match us, hl with | [_, _], _ => rfl
  have d_T_cont : DfM Γ (He.ga K "Table") "__contains__" "Table.__contains__" s_T_cont ["self", "row"] := dfm_of (c.fact 33 rfl) (c.fact 36 rfl) F_T_cont b_T_cont
  obtain ⟨fd_T_needrow, F_T_needrow⟩ := c.def_ 13 rfl
  have b_T_needrow : Binds K fd_T_needrow ["self", "row"] [] := FunD.bindsN F_T_needrow fun _ _ _ _ _ _ us hl => match us, hl with | [_, _], _ => rfl
  have d_T_needrow : DfM Γ (He.ga K "Table") "need_row" "Table.need_row" s_T_needrow ["self", "row"] := dfm_of (c.fact 33 rfl) (c.fact 37 rfl) F_T_needrow b_T_needrow
  obtain ⟨fd_T_get, F_T_get⟩ := c.def_ 14 rfl
  have b_T_get : Binds K fd_T_get ["self", "row"] [] := FunD.bindsN F_T_get fun _ _ _ _ _ _ us hl => match us, hl with | [_, _], _ => rfl
  have d_T_get : DfM Γ (He.ga K "Table") "__getitem__" "Table.__getitem__" s_T_get ["self", "row"] := dfm_of (c.fact 33 rfl) (c.fact 38 rfl) F_T_get b_T_get
  obtain ⟨fd_T_set, F_T_set⟩ := c.def_ 15 rfl
  have b_T_set : Binds K fd_T_set ["self", "row", "x"] [] := FunD.bindsN F_T_set fun _ _ _ _ _ _ us hl => match us, hl with | [_, _, _], _ => rfl
  have d_T_set : DfM Γ (He.ga K "Table") "__setitem__" "Table.__setitem__" s_T_set ["self", "row", "x"] := dfm_of (c.fact 33 rfl) (c.fact 39 rfl) F_T_set b_T_set
  obtain ⟨fd_T_put, F_T_put⟩ := c.def_ 16 rfl
  obtain ⟨fd_T_mark, F_T_mark⟩ := c.def_ 17 rfl
  have b_T_mark : Binds K fd_T_mark ["self", "row", "name"] [] := FunD.bindsN F_T_mark fun _ _ _ _ _ _ us hl => match us, hl with | [_, _, _], _ => rfl
  have d_T_mark : DfM Γ (He.ga K "Table") "mark" "Table.mark" s_T_mark ["self", "row", "name"] := dfm_of (c.fact 33 rfl) (c.fact 41 rfl) F_T_mark b_T_mark
  obtain ⟨fd_T_view, F_T_view⟩ := c.def_ 18 rfl
  have b_T_view : Binds K fd_T_view ["self"] [] := FunD.bindsN F_T_view fun _ _ _ _ _ _ us hl => match us, hl with | [_], _ => rfl
  have d_T_view : DfM Γ (He.ga K "Table") "view" "Table.view" s_T_view ["self"] := dfm_of (c.fact 33 rfl) (c.fact 42 rfl) F_T_view b_T_view
  obtain ⟨fd_T_need, F_T_need⟩ := c.def_ 19 rfl
  obtain ⟨fd_T_link, F_T_link⟩ := c.def_ 20 rfl
  have b_T_link : Binds K fd_T_link ["self", "kind", "row", "other"] [] := FunD.bindsN F_T_link fun _ _ _ _ _ _ us hl => match us, hl with | [_, _, _, _], _ => rfl
  have d_T_link : DfM Γ (He.ga K "Table") "link" "Table.link" s_T_link ["self", "kind", "row", "other"] := dfm_of (c.fact 33 rfl) (c.fact 44 rfl) F_T_link b_T_link
  obtain ⟨fd_T_cut, F_T_cut⟩ := c.def_ 21 rfl
  have b_T_cut : Binds K fd_T_cut ["self", "kind", "row"] [] := FunD.bindsN F_T_cut fun _ _ _ _ _ _ us hl => match us, hl with | [_, _, _], _ => rfl
  have d_T_cut : DfM Γ (He.ga K "Table") "cut" "Table.cut" s_T_cut ["self", "kind", "row"] := dfm_of (c.fact 33 rfl) (c.fact 45 rfl) F_T_cut b_T_cut
  obtain ⟨fd_T_after, F_T_after⟩ := c.def_ 22 rfl
  have b_T_after : Binds K fd_T_after ["self", "kind", "row"] [] := FunD.bindsN F_T_after fun _ _ _ _ _ _ us hl => match us, hl with | [_, _, _], _ => rfl
  have d_T_after : DfM Γ (He.ga K "Table") "after" "Table.after" s_T_after ["self", "kind", "row"] := dfm_of (c.fact 33 rfl) (c.fact 46 rfl) F_T_after b_T_after
  obtain ⟨fd_T_initG, F_T_initG⟩ := c.def_ 23 rfl
  obtain ⟨fd_number, F_number⟩ := c.def_ 24 rfl
  have b_number : Binds K fd_number ["_law_box_here"] [] := FunD.bindsN F_number fun _ _ _ _ _ _ us hl => match us, hl with | [_], _ => rfl
  have d_number : Dfn Γ "_law_number" s_number ["_law_box_here"] := dfn_of X N (c.fact 48 rfl) F_number b_number
  obtain ⟨fd_linked, F_linked⟩ := c.def_ 25 rfl
  have b_linked : Binds K fd_linked ["_law_box_here", "_law_kind", "_law_order_so"] [] := FunD.bindsN F_linked fun _ _ _ _ _ _ us hl => match us, hl with | [_, _, _], _ => rfl
  have d_linked : Dfn Γ "_law_linked" s_linked ["_law_box_here", "_law_kind", "_law_order_so"] := dfn_of X N (c.fact 49 rfl) F_linked b_linked
  obtain ⟨fd_lview, F_lview⟩ := c.def_ 26 rfl
  have b_lview : Binds K fd_lview ["_law_box_here", "_law_kinds_so", "_law_marks_so", "_law_most", "_law_timed"] [] := FunD.bindsN F_lview fun _ _ _ _ _ _ us hl => match us, hl with | [_, _, _, _, _], _ => rfl
  have d_lview : Dfn Γ "_law_view" s_lview ["_law_box_here", "_law_kinds_so", "_law_marks_so", "_law_most", "_law_timed"] := dfn_of X N (c.fact 50 rfl) F_lview b_lview
  obtain ⟨fd_beside, F_beside⟩ := c.def_ 27 rfl
  have b_beside : Binds K fd_beside ["one", "two"] [] := FunD.bindsN F_beside fun _ _ _ _ _ _ us hl => match us, hl with | [_, _], _ => rfl
  have d_beside : Dfn Γ "beside" s_beside ["one", "two"] := dfn_of X N (c.fact 51 rfl) F_beside b_beside
  obtain ⟨fd_copies, F_copies⟩ := c.def_ 28 rfl
  have b_copies : Binds K fd_copies ["table", "count"] [] := FunD.bindsN F_copies fun _ _ _ _ _ _ us hl => match us, hl with | [_, _], _ => rfl
  have d_copies : Dfn Γ "copies" s_copies ["table", "count"] := dfn_of X N (c.fact 52 rfl) F_copies b_copies
  obtain ⟨fd_lists, F_lists⟩ := c.def_ 29 rfl
  have b_lists : Binds K fd_lists ["_law_matter"] [] := FunD.bindsN F_lists fun _ _ _ _ _ _ us hl => match us, hl with | [_], _ => rfl
  have d_lists : Dfn Γ "_law_lists" s_lists ["_law_matter"] := dfn_of X N (c.fact 53 rfl) F_lists b_lists
  obtain ⟨fd_copied, F_copied⟩ := c.def_ 30 rfl
  have b_copied : Binds K fd_copied ["self"] [] := FunD.bindsN F_copied fun _ _ _ _ _ _ us hl => match us, hl with | [_], _ => rfl
  have d_copied : DfM Γ (He.ga K "Table") "copied" "Table.copied" s_copied ["self"] := dfm_of (c.fact 33 rfl) (c.fact 54 rfl) F_copied b_copied
  obtain ⟨fd_besideX, F_besideX⟩ := c.def_ 31 rfl
  have b_besideX : Binds K fd_besideX ["one", "two"] [] := FunD.bindsN F_besideX fun _ _ _ _ _ _ us hl => match us, hl with | [_, _], _ => rfl
  have d_besideX : Dfn Γ "beside" s_besideX ["one", "two"] := dfn_of X N (c.fact 55 rfl) F_besideX b_besideX
  obtain ⟨fd_unlike, F_unlike⟩ := c.def_ 32 rfl
  have b_unlike : Binds K fd_unlike ["_law_one", "_law_two"] [] := FunD.bindsN F_unlike fun _ _ _ _ _ _ us hl => match us, hl with | [_, _], _ => rfl
  have d_unlike : Dfn Γ "_law_unlike" s_unlike ["_law_one", "_law_two"] := dfn_of X N (c.fact 56 rfl) F_unlike b_unlike
  obtain ⟨fd_shifted, F_shifted⟩ := c.def_ 33 rfl
  have b_shifted : Binds K fd_shifted ["_law_view_here", "_law_by"] [] := FunD.bindsN F_shifted fun _ _ _ _ _ _ us hl => match us, hl with | [_, _], _ => rfl
  have d_shifted : Dfn Γ "_law_shifted" s_shifted ["_law_view_here", "_law_by"] := dfn_of X N (c.fact 57 rfl) F_shifted b_shifted
  obtain ⟨fd_lbeside, F_lbeside⟩ := c.def_ 34 rfl
  have b_lbeside : Binds K fd_lbeside ["_law_front", "_law_rear"] [] := FunD.bindsN F_lbeside fun _ _ _ _ _ _ us hl => match us, hl with | [_, _], _ => rfl
  have d_lbeside : Dfn Γ "_law_beside" s_lbeside ["_law_front", "_law_rear"] := dfn_of X N (c.fact 58 rfl) F_lbeside b_lbeside
  obtain ⟨fd_lchg, F_lchg⟩ := c.def_ 35 rfl
  have b_lchg : Binds K fd_lchg ["_law_table", "_law_many"] [] := FunD.bindsN F_lchg fun _ _ _ _ _ _ us hl => match us, hl with | [_, _], _ => rfl
  have d_lchg : Dfn Γ "_law_changed" s_lchg ["_law_table", "_law_many"] := dfn_of X N (c.fact 59 rfl) F_lchg b_lchg
  obtain ⟨fd_cop, F_cop⟩ := c.def_ 36 rfl
  have b_cop : Binds K fd_cop [] [] := FunD.bindsN F_cop fun _ _ _ _ _ _ us hl => match us, hl with | [], _ => rfl
  have d_cop : Dfn Γ "_law_copied_right" s_cop [] := dfn_of X N (c.fact 60 rfl) F_cop b_cop
  obtain ⟨fd_right2, F_right2⟩ := c.def_ 37 rfl
  have b_right2 : Binds K fd_right2 ["_law_box_here"] [] := FunD.bindsN F_right2 fun _ _ _ _ _ _ us hl => match us, hl with | [_], _ => rfl
  have d_right2 : Dfn Γ "_law_right" s_right2 ["_law_box_here"] := dfn_of X N (c.fact 61 rfl) F_right2 b_right2
  have e_Unlike := err_of (lv := 0) (k := 1) (n := 0) (fs := (fun _ => [("shown", .bl false)])) X N (c.fact 23 rfl) (by decide) (fun o1 o2 => cl_E_Unlike (Γ := Γ) (fun_of F_E_Unlike) T o1 o2) b_E_Unlike
  have gcL : ∃ u, Γ.mg "LETTERS" = some u ∧ RelV (.str LET) u := by
    obtain ⟨t, e⟩ := He.str_ok X N (c.fact 63 rfl)
    exact ⟨_, e, t, rfl⟩
  have c_isname := cl_isname d_isname T gcL
  have c_isnum2 := cl_isnum2 d_isnum2 T
  have c_chk := cl_chk d_chk T c_isname
  have L : KT Γ (He.ga K "Table") := kt_of X N (c.fact 64 rfl)
  have p_kinds := cl_T_kinds d_T_kinds T L
  have m_len := cl_T_len d_T_len T L
  have m_cont := cl_T_cont d_T_cont T L c_isnum2
  have m_needrow := cl_T_needrow d_T_needrow T L m_cont
  have m_get := cl_T_get d_T_get T L m_needrow
  have m_set := cl_T_set d_T_set T L m_needrow
  have m_mark := cl_T_mark d_T_mark T L m_needrow c_isname
  have m_view := cl_T_view d_T_view T L
  have f_need := fn_need T L m_needrow F_T_need
  have m_need : Mk' Γ 5 (He.ga K "Table") "need" [] (spNeedK K (He.ga K "Table")) := ⟨_, f_need, cls_of (c.fact 33 rfl), meth_of (c.fact 43 rfl)⟩
  have b_need : MkB Γ 5 (He.ga K "Table") "need" _ [] (spNeedK K (He.ga K "Table")) := ⟨f_need, cls_of (c.fact 33 rfl), bm_of (c.fact 65 rfl)⟩
  have m_link := cl_T_link d_T_link T L m_need
  have m_cut := cl_T_cut d_T_cut T L m_need
  have m_after := cl_T_after d_T_after T L m_need
  have m_put := mk_put T L c_isname F_T_put (cls_of (c.fact 33 rfl)) (meth_of (c.fact 40 rfl))
  have m_put0 := mk_put0 T L c_isname F_T_put (cls_of (c.fact 33 rfl)) (meth_of (c.fact 40 rfl))
  have b_put : MkB Γ 2 (He.ga K "Table") "put" _ ["x"] (spPutK K (He.ga K "Table")) := ⟨fnk_put T L c_isname F_T_put, cls_of (c.fact 33 rfl), bm_of (c.fact 66 rfl)⟩
  have mT := mkr_of (c.fact 67 rfl)
  obtain ⟨k_TG, k_TG1⟩ := mk_initG T L c_chk b_put m_link F_T_initG mT L.mg
  have k_TGk := mk_initGk T L c_chk b_put m_link F_T_initG mT L.mg
  have k_T3 := Mkr.imp k_TG init_fg
  have em1 : ∀ {H : Hp}, SqT Γ.K H (dfA (He.ma K (He.ga K "Table") "__init__") 0 K) [] := fun {H} => emT_of (c.fact 68 rfl) H
  have em2 : ∀ {H : Hp}, SqT Γ.K H (dfA (He.ma K (He.ga K "Table") "__init__") 1 K) [] := fun {H} => emT_of (c.fact 69 rfl) H
  have c_take := cl_take d_take T
  have c_box := cl_box d_box T
  have c_of := cl_of d_of T c_take
  have c_cells := cl_cells d_cells T
  have c_pick := cl_pick d_pick T c_take
  have c_names := cl_names d_names T c_take c_of c_pick
  have c_number := cl_number d_number T c_of
  have c_linked := cl_linked d_linked T c_take
  have c_lview := cl_lview d_lview T c_take c_pick c_linked c_number
  have c_lists : ∀ d, Cl Γ CX0 (d + 1) "_law_lists" (spLists K d) [] := fun d => by
    induction d with
    | zero => exact d_lists.cl_no sc_lists fun vs H Q E ⟨_, _, _, _, _, hd, _⟩ => by omega
    | succ d ih => exact cl_lists d_lists T ih
  have c_li : Cl Γ CX0 40 "_law_lists" (spLists K 10) [] := (c_lists 10).imp (fun _ _ _ _ h => h) (by omega)
  have c_beside := cl_beside d_beside T L k_T3 p_kinds m_view
  have c_copies := cl_copies d_copies T L k_T3 m_view
  have m_copied := cl_copied d_copied T L k_T3 m_view
  have c_besideX := cl_besideX d_besideX T L p_kinds e_Unlike
  have gcU : ∃ u, Γ.mg "Unlike" = some u ∧ RelV (.ref (He.ga K "Unlike")) u := ⟨_, He.glo_ok X N (c.fact 71 rfl), rfl⟩
  have c_unlike := cl_unlike d_unlike T c_besideX ⟨He.glo_ok X N (c.fact 70 rfl)⟩ gcU (of_decide_eq_true (c.fact 72 rfl)) (excB_ok (show excBx "Unlike" K = true from c.fact 73 rfl)) (of_decide_eq_true (show kiB "Unlike" "Unlike" K = true from c.fact 74 rfl)) (of_decide_eq_true (show kiTB "Unlike" "ValueError" K = true from c.fact 75 rfl))
  have c_shifted := cl_shifted d_shifted T
  have c_lbeside := cl_lbeside d_lbeside T c_shifted
  have c_lchg := cl_lchg d_lchg T L p_kinds m_after m_cut m_set m_get m_mark m_put0
  have c_cop := cl_cop d_cop T L k_TG m_view p_kinds m_after m_len
  have c_right := cl_right2 d_right2 T L em1 em2 k_TG k_TG1 k_TGk c_take c_names c_lview c_li c_beside c_copies m_copied c_lbeside c_lchg c_unlike m_view
  exact cl_law (Γ := Γ) (fun_of F_law) T c_cop c_cells c_box c_right
end K
open PySem PySem.W PySem.Calls PyProof.Rows
set_option maxRecDepth 100000 in
set_option maxHeartbeats 0 in
theorem PySem.Challenge.cw_linelooks_k02_tables_made_again_holds : PySem.Challenge.rw_linelooks_k02_tables_made_again.Holds := by
  w_on; o_law
  refine HandSHeadRun.head_any (r := OpenLaw.row PySem.Challenge.rw_linelooks_k02_tables_made_again) (q := view (OpenLaw.row PySem.Challenge.rw_linelooks_k02_tables_made_again).prog [37]) (H := K.hk) (ob := K.ob) (M := 20000) (loose := K.loose) (d := HandSHeadRun.topDef (OpenLaw.row PySem.Challenge.rw_linelooks_k02_tables_made_again).prog 37) (kwd := []) K.ob_eq
    (by kernel_rfl) (fun s => by kernel_rfl) K.run (by kernel_rfl) (by kernel_rfl) (by kernel_rfl) (by rfl) (by first | assumption | decide +kernel) (by decide +kernel) ⟨rfl, rfl, rfl, rfl, rfl, by decide +kernel⟩ ?hw ?hc
  case hw => w_witness2
  case hc =>
    refine L2.walk_ofE (l := PySem.Challenge.rw_linelooks_k02_tables_made_again) (n := 63) (k := 210) (x := "_law_script") (CX := L2.CX0) rfl (by decide) (by kernel_rfl) ⟨rfl, by decide, by decide⟩ ?F (fun _ _ _ _ z => z)
    intro w mg fa h Y G hmg0
    obtain ⟨K', KX, c⟩ := Y
    have hmg : mg ("law" : PySem.Str) = some (.ref fa) := by
      have e : (HandSHeadRun.topDef (OpenLaw.row PySem.Challenge.rw_linelooks_k02_tables_made_again).prog 37).name = ("law" : PySem.Str) := by kernel_rfl
      rw [← e]
      exact hmg0
    obtain ⟨fd, hb, hF⟩ := K.all_mk (P := (PySem.Challenge.rw_linelooks_k02_tables_made_again).prog) (w := w) KX G hmg c
    exact ⟨K', fd, K.spLaw K', KX, hb, fun H a ns hl _ hS => ⟨a, ns, rfl, hS, hl, fun _ => rfl⟩, hF⟩
