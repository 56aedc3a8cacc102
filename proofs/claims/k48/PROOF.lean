import PyProof.Rows.All
import Wide.All
import OpenK.AllK
import Wide.FinOn
import HandS.ForMost
import HandS.ForExc
import HandS.Flow
import HandS.Style
import HandS.TupAny
import HandS.Codes
import HandS.Words
import HandS.List
import HandS.Dict
import HandS.Walk
import HandS.Property
import HandS.IsInst
import HandS.Defaults
import HandS.SlotsOwn
import PyProof.InstEq
import HandS.Set
import HandS.SetFor
import HandS.SetKeys
import HandS.TupSets
import PyProof.CollectStr
import KE.KDictList
import HandS.Conv
import HandS.DictComp
import HandS.Small
import HandS.Star
import HandS.More
import KE.KOpsOwn
import HandS.Iter
import KE.KTupSum
import PyProof.TupleIter
import KE.SortData
import HandS.SortInts
import HandS.Comp
import KE.KStar
import HandS.MethStar
import HandS.Zip
import HandS.TupMul
import HandS.Head0
import HandS.Head1
import HandS.Head2
import HandS.HeadEnd
import HandS.HeadHook1
import HandS.HeadHook2
import HandS.ExcCtx
import HandS.ExcInit
import HandS.ExcField
import HandS.ExcIs
import HandS.CallSlots
import PyProof.P3Eq
import HandS.MakeKw
import HandS.NoneIn
import KE.KExcIs
import HandS.Text
import HandS.Strs
import PyProof.StrBlock2
import PyProof.Rows.StrMul
import PyProof.Rows.StrJoinRep
import PyProof.Draws
import PyProof.EnumMake
import PyProof.Rows.EnumRows
import PySem.Challenge.RW_linelooks_k48_texts_that_are_wrong
set_option Elab.async false
set_option linter.all false
set_option maxRecDepth 100000
set_option maxHeartbeats 4000000
namespace G
open PySem PySem.Spec PyProof.Rows L2

/-! ### where one stands: the program, the world, what the text has written -/
structure Gm where
  P : Program
  w : World
  K : PySem.W.Frag
  mg : Str → Option Value
  base : Heap
  lv : Nat := 0
/-- the same, with room for calls n deep -/
abbrev Gm.at (Γ : Gm) (n : Nat) : Gm := { Γ with lv := n }
structure Good (Γ : Gm) (X : Cx) : Prop where
  P : X.prog = Γ.P
  w : X.w = Γ.w
  K : X.K = Γ.K
  mg : X.mg = Γ.mg
  base : X.base = Γ.base
  calm : X.calm = true
  room : Room Γ.lv X.A
theorem Good.blk {Γ : Gm} {X : Cx} (g : Good Γ X) {s : Shared} {H : Hp} {scope : Scope} {cenv : Env} {fp : List Addr} : Good Γ (X.blk s H scope cenv fp) := ⟨g.P, g.w, g.K, g.mg, g.base, g.calm, g.room⟩
theorem Good.of {Γ : Gm} {CX : CXT} {N : List Str} {qual : Str} {scope : Scope} {f : Addr} {cd : Value} {A : Around} {outer : List Env} {s : Shared} {H : Hp} {E : XK} {k : Nat} (hr : Room k (A.deeper (envOfC qual scope s.heap.objs.size f cd))) :
    Good (Γ.at k) (cxOf CX Γ.P Γ.w Γ.K Γ.mg Γ.base N qual scope f cd A outer s H E) := ⟨rfl, rfl, rfl, rfl, rfl, rfl, hr⟩
theorem Good.nox {Γ : Gm} {X : Cx} (g : Good Γ X) : Good Γ X.nox := ⟨g.P, g.w, g.K, g.mg, g.base, g.calm, g.room⟩
theorem Good.hu {Γ : Gm} {X : Cx} (g : Good Γ X) : X.A.units + 1 < cLine := hu_of (g.room.mono (Nat.zero_le _))
theorem Good.hu64 {Γ : Gm} {X : Cx} (g : Good Γ X) : X.A.units + 64 < cLine := g.room.units

/-! ### weakest rules by values: which rule serves is chosen when the values are known -/
section
variable {Γ : Gm} {X : Cx}
def WO (Γ : Gm) (f : Value → Value → Sem Value) : R2 := fun x y H Q => ∃ r, (∀ X, Good Γ X → OpR X f r) ∧ r x y H Q
theorem WO.ok (g : Good Γ X) {f : Value → Value → Sem Value} : OpR X f (WO Γ f) := fun pins s σ H x y v u Q I rx ry ⟨r, h, q⟩ => h X g pins s σ H x y v u Q I rx ry q
def WU (Γ : Gm) (f : Value → Sem Value) : V → Hp → VK → Prop := fun x H Q => ∃ r, (∀ X, Good Γ X → UnR X f r) ∧ r x H Q
theorem WU.ok (g : Good Γ X) {f : Value → Sem Value} : UnR X f (WU Γ f) := fun pins s σ H x v Q I rx ⟨r, h, q⟩ => h X g pins s σ H x v Q I rx q
def WC (Γ : Gm) (f : Value) : List V → Hp → VK → Prop := fun xs H Q => ∃ r, (∀ X, Good Γ X → CallR X f r) ∧ r xs H Q
theorem WC.ok (g : Good Γ X) {f : Value} : CallR X f (WC Γ f) := fun pins s σ H xs us Q I r ⟨_, h, q⟩ => h X g pins s σ H xs us Q I r q
def WX (Γ : Gm) : R2 := fun x y H Q => ∃ r, (∀ X, Good Γ X → IxR X r) ∧ r x y H Q
theorem WX.ok (g : Good Γ X) : IxR X (WX Γ) := fun value slice pins s σ H x y v u Q I rx ry ⟨_, h, q⟩ hs => h X g value slice pins s σ H x y v u Q I rx ry q hs
def WL (Γ : Gm) : V → Option Int → Option Int → Hp → VK → Prop := fun x lo hi H Q => ∃ r, (∀ X, Good Γ X → SlR X r) ∧ r x lo hi H Q
theorem WL.ok (g : Good Γ X) : SlR X (WL Γ) := fun pins s σ H x v vl vu lo hi sl Q I rx hs pl pu ⟨_, h, q⟩ => h X g pins s σ H x v vl vu lo hi sl Q I rx hs pl pu q
def WP (Γ : Gm) : TSet := fun o i v H Q => ∃ t, (∀ X, Good Γ X → PSet X t) ∧ t o i v H Q
theorem WP.ok (g : Good Γ X) : PSet X (WP Γ) := fun pins s σ H o i v ov iv u Q I ro ri rv ⟨_, h, q⟩ => h X g pins s σ H o i v ov iv u Q I ro ri rv q
def WI (Γ : Gm) (op : Operator) : TIp := fun x y H Q => ∃ t, (∀ X, Good Γ X → PIp X op t) ∧ t x y H Q
theorem WI.ok (g : Good Γ X) {op : Operator} : PIp X op (WI Γ op) := fun pins s σ H x y v u Q I rx ry ⟨_, h, q⟩ => h X g pins s σ H x y v u Q I rx ry q
end

/-! ### ints -/
section
variable {Γ : Gm} {H : Hp} {Q : VK} {i j : Int}
theorem wo_add (h : Q (.int (i + j)) H) : WO Γ (binaryOp .Add) (.int i) (.int j) H Q := ⟨_, fun _ _ => op_add, i, j, rfl, rfl, h⟩
theorem wo_sub (h : Q (.int (i - j)) H) : WO Γ (binaryOp .Sub) (.int i) (.int j) H Q := ⟨_, fun _ _ => op_sub, i, j, rfl, rfl, h⟩
theorem wo_mulL (h1 : -(2 ^ 64) < i) (h2 : i < 2 ^ 64) (h : Q (.int (i * j)) H) : WO Γ (binaryOp .Mult) (.int i) (.int j) H Q := ⟨_, fun _ _ => op_mul, i, j, rfl, rfl, .inl ⟨h1, h2⟩, h⟩
theorem wo_mulR (h1 : -(2 ^ 64) < j) (h2 : j < 2 ^ 64) (h : Q (.int (i * j)) H) : WO Γ (binaryOp .Mult) (.int i) (.int j) H Q := ⟨_, fun _ _ => op_mul, i, j, rfl, rfl, .inr ⟨h1, h2⟩, h⟩
theorem wo_fdiv (h1 : 0 < j) (h2 : j < 1073741824) (h : Q (.int (i / j)) H) : WO Γ (binaryOp .FloorDiv) (.int i) (.int j) H Q := ⟨_, fun _ _ => op_fdiv, i, j, rfl, rfl, ⟨h1, h2⟩, h⟩
theorem wo_mod (hb : 0 < j) (h : Q (.int (i % j)) H) : WO Γ (binaryOp .Mod) (.int i) (.int j) H Q := ⟨_, fun _ _ => op_mod, i, j, rfl, rfl, hb, h⟩
theorem wo_pow (h1 : 0 ≤ j) (h2 : j ≤ 1000000) (h3 : i.natAbs < 2 ^ 64) (h : Q (.int (i ^ j.toNat)) H) : WO Γ (binaryOp .Pow) (.int i) (.int j) H Q := ⟨_, fun _ _ => op_pow, i, j, rfl, rfl, ⟨h1, h2, h3⟩, h⟩
theorem wo_lt (h : Q (.bl (decide (i < j))) H) : WO Γ (compareOp .Lt) (.int i) (.int j) H Q := ⟨_, fun _ _ => op_lt, i, j, rfl, rfl, h⟩
theorem wo_le (h : Q (.bl (decide (i ≤ j))) H) : WO Γ (compareOp .LtE) (.int i) (.int j) H Q := ⟨_, fun _ _ => op_le, i, j, rfl, rfl, h⟩
theorem wo_gt (h : Q (.bl (decide (j < i))) H) : WO Γ (compareOp .Gt) (.int i) (.int j) H Q := ⟨_, fun _ _ => op_gt, i, j, rfl, rfl, h⟩
theorem wo_ge (h : Q (.bl (decide (j ≤ i))) H) : WO Γ (compareOp .GtE) (.int i) (.int j) H Q := ⟨_, fun _ _ => op_ge, i, j, rfl, rfl, h⟩
theorem wo_eqI (h : Q (.bl (decide (i = j))) H) : WO Γ (compareOp .Eq) (.int i) (.int j) H Q := ⟨_, fun _ _ => op_eq, rfl, by
  have e : decide (V.int i = V.int j) = decide (i = j) := decide_eq_decide.mpr ⟨fun z => V.int.inj z, fun z => by rw [z]⟩
  rw [e]; exact h⟩
theorem wo_neI (h : Q (.bl (!decide (i = j))) H) : WO Γ (compareOp .NotEq) (.int i) (.int j) H Q := ⟨_, fun _ _ => op_ne, rfl, by
  have e : decide (V.int i = V.int j) = decide (i = j) := decide_eq_decide.mpr ⟨fun z => V.int.inj z, fun z => by rw [z]⟩
  rw [e]; exact h⟩
theorem wo_eqS {x y : Str} (h : Q (.bl (decide (x = y))) H) : WO Γ (compareOp .Eq) (.str x) (.str y) H Q := ⟨_, fun _ _ => op_eq, rfl, by
  have e : decide (V.str x = V.str y) = decide (x = y) := decide_eq_decide.mpr ⟨fun z => V.str.inj z, fun z => by rw [z]⟩
  rw [e]; exact h⟩
theorem wo_neS {x y : Str} (h : Q (.bl (!decide (x = y))) H) : WO Γ (compareOp .NotEq) (.str x) (.str y) H Q := ⟨_, fun _ _ => op_ne, rfl, by
  have e : decide (V.str x = V.str y) = decide (x = y) := decide_eq_decide.mpr ⟨fun z => V.str.inj z, fun z => by rw [z]⟩
  rw [e]; exact h⟩
theorem wo_isN {x : V} (h : Q (.bl (decide (x = .non))) H) : WO Γ (compareOp .Is) x .non H Q := ⟨_, fun _ _ => op_isN, rfl, h⟩
theorem wo_notN {x : V} (h : Q (.bl (!decide (x = .non))) H) : WO Γ (compareOp .IsNot) x .non H Q := ⟨_, fun _ _ => op_notN, rfl, h⟩
theorem wu_neg (h : Q (.int (-i)) H) : WU Γ (unaryOp .USub) (.int i) H Q := ⟨_, fun _ _ => un_neg, i, rfl, h⟩
theorem wc_abs (h : Q (.int (if i < 0 then -i else i)) H) : WC Γ (.builtin "abs") [.int i] H Q := ⟨_, fun _ _ => call_abs, i, rfl, h⟩
theorem wc_int (h : Q (.int i) H) : WC Γ (.type "int") [.int i] H Q := ⟨_, fun _ _ => call_int1, .inl ⟨i, rfl, h⟩⟩
theorem wc_intB {b : Bool} (h : Q (.int (if b then 1 else 0)) H) : WC Γ (.type "int") [.bl b] H Q := ⟨_, fun _ _ => call_int1, .inr ⟨b, rfl, h⟩⟩
theorem wc_min2 (h : Q (.int (if j < i then j else i)) H) : WC Γ (.builtin "min") [.int i, .int j] H Q := ⟨_, fun _ g => call_min2 g.calm, i, j, rfl, h⟩
theorem wc_max2 (h : Q (.int (if j > i then j else i)) H) : WC Γ (.builtin "max") [.int i, .int j] H Q := ⟨_, fun _ g => call_max2 g.calm, i, j, rfl, h⟩
end

/-! ### the built-in names -/
theorem bt_len : bootBuiltins "len" = some (.builtin "len") := by first | exact PyProof.Rows.boot_len | exact PySem.boot_len | decide +kernel
theorem bt_abs : bootBuiltins "abs" = some (.builtin "abs") := by first | exact PyProof.Rows.boot_abs | exact PySem.boot_abs | decide +kernel
theorem bt_min : bootBuiltins "min" = some (.builtin "min") := by first | exact PyProof.Rows.boot_min | exact PySem.boot_min | decide +kernel
theorem bt_max : bootBuiltins "max" = some (.builtin "max") := by first | exact PyProof.Rows.boot_max | exact PySem.boot_max | decide +kernel
theorem bt_sum : bootBuiltins "sum" = some (.builtin "sum") := by first | exact PyProof.Rows.boot_sum | exact PySem.boot_sum | decide +kernel
theorem bt_sorted : bootBuiltins "sorted" = some (.builtin "sorted") := by first | exact PyProof.Rows.boot_sorted | exact PySem.boot_sorted | decide +kernel
theorem bt_all : bootBuiltins "all" = some (.builtin "all") := by first | exact PyProof.Rows.boot_all | exact PySem.boot_all | decide +kernel
theorem bt_any : bootBuiltins "any" = some (.builtin "any") := by first | exact PyProof.Rows.boot_any | exact PySem.boot_any | decide +kernel
theorem bt_isinstance : bootBuiltins "isinstance" = some (.builtin "isinstance") := by first | exact PyProof.Rows.boot_isinstance | exact PySem.boot_isinstance | decide +kernel
theorem bt_ord : bootBuiltins "ord" = some (.builtin "ord") := by first | exact PyProof.Rows.boot_ord | exact PySem.boot_ord | decide +kernel
theorem bt_chr : bootBuiltins "chr" = some (.builtin "chr") := by first | exact PyProof.Rows.boot_chr | exact PySem.boot_chr | decide +kernel
theorem bt_int : bootBuiltins "int" = some (.type "int") := by first | exact PyProof.Rows.boot_int | exact PySem.boot_int | decide +kernel
theorem bt_str : bootBuiltins "str" = some (.type "str") := by first | exact PyProof.Rows.boot_str | exact PySem.boot_str | decide +kernel
theorem bt_list : bootBuiltins "list" = some (.type "list") := by first | exact PyProof.Rows.boot_list | exact PySem.boot_list | decide +kernel
theorem bt_tuple : bootBuiltins "tuple" = some (.type "tuple") := by first | exact PyProof.Rows.boot_tuple | exact PySem.boot_tuple | decide +kernel
theorem bt_set : bootBuiltins "set" = some (.type "set") := by first | exact PyProof.Rows.boot_set | exact PySem.boot_set | decide +kernel
theorem bt_dict : bootBuiltins "dict" = some (.type "dict") := by first | exact PyProof.Rows.boot_dict | exact PySem.boot_dict | decide +kernel
theorem bt_bool : bootBuiltins "bool" = some (.type "bool") := by first | exact PyProof.Rows.boot_bool | exact PySem.boot_bool | decide +kernel
theorem bt_enumerate : bootBuiltins "enumerate" = some (.type "enumerate") := by first | exact PyProof.Rows.boot_enumerate | exact PySem.boot_enumerate | decide +kernel
theorem bt_zip : bootBuiltins "zip" = some (.type "zip") := by first | exact PyProof.Rows.boot_zip | exact PySem.boot_zip | decide +kernel
theorem bt_reversed : bootBuiltins "reversed" = some (.type "reversed") := by first | exact PyProof.Rows.boot_reversed | exact PySem.boot_reversed | decide +kernel
theorem bt_range : bootBuiltins "range" = some (.type "range") := by first | exact PyProof.Rows.boot_range | exact PySem.boot_range | decide +kernel

/-! ### defs: where they stand, what they promise -/
/-- a def of the module, every parameter given -/
structure Dfn (Γ : Gm) (x : Str) (st : Stmt) (ps : List Str) : Prop where
  ex : ∃ (f : Addr) (fd : FuncData), L2.Fun Γ.K x x st f fd ∧ Γ.mg x = some (.ref f) ∧ Binds Γ.K fd ps []
/-- what a def (at its name) promises; dvs: its defaults behind what is given -/
structure Cl (Γ : Gm) (CX : CXT) (k : Nat) (x : Str) (sp : Sp) (dvs : List V) : Prop where
  ex : ∃ (f : Addr) (fd : FuncData) (ps : List Str) (ds : List Value), FnOk Γ.P Γ.w Γ.K Γ.mg Γ.base CX k f fd ps sp ∧ Γ.mg x = some (.ref f) ∧ PySem.W.keepIn Γ.K (.ref f) = true ∧ Binds Γ.K fd ps ds ∧ Vals dvs ds
theorem Dfn.cl {Γ : Gm} {x : Str} {st : Stmt} {ps N : List Str} {k : Nat} {sp : Sp} (d : Dfn Γ x st ps) (S : FnScope N ps (defScope st)) (len : ∀ vs H Q E, sp vs H Q E → vs.length = ps.length)
    (hbody : ∀ (f : Addr) (cdv : Value) (A : Around) (outer : List Env) (s : Shared) (H : Hp) (vs : List V) (Q : VK) (E : XK), Good (Γ.at k) (cxOf CX0 Γ.P Γ.w Γ.K Γ.mg Γ.base N x (defScope st) f cdv A outer s H E).nox → sp vs H Q E →
      ∃ t, PSs (cxOf CX0 Γ.P Γ.w Γ.K Γ.mg Γ.base N x (defScope st) f cdv A outer s H E).nox (defBody st) t ∧ t { nx := fun _ H' => Q .non H', rt := Q } (L2.start N vs) H) : Cl Γ CX0 (k + 1) x sp [] := by
  obtain ⟨f, fd, F, m, b⟩ := d.ex
  exact ⟨f, fd, ps, [], F.ok S len fun cdv A outer s H vs Q E hr h => hbody f cdv A outer s H vs Q E (Good.of hr).nox h, m, F.kp, b, .nil⟩
/-- nothing is asked of it -/
theorem Dfn.cl_no {Γ : Gm} {x : Str} {st : Stmt} {ps N : List Str} {sp : Sp} (d : Dfn Γ x st ps) (S : FnScope N ps (defScope st)) (no : ∀ vs H Q E, ¬ sp vs H Q E) : Cl Γ CX0 1 x sp [] :=
  d.cl (k := 0) S (fun vs H Q E h => (no vs H Q E h).elim) fun f cdv A outer s H vs Q E g h => (no vs H Q E h).elim
theorem Cl.imp {Γ : Gm} {CX : CXT} {j k : Nat} {x : Str} {sp sp' : Sp} {dvs : List V} (c : Cl Γ CX k x sp dvs) (h : ∀ vs H Q E, sp' vs H Q E → sp vs H Q E) (hk : k ≤ j) : Cl Γ CX j x sp' dvs := by
  obtain ⟨f, fd, ps, ds, F, r⟩ := c.ex
  exact ⟨f, fd, ps, ds, (F.imp h).mono hk, r⟩
section
variable {Γ : Gm} {X : Cx} {CX : CXT} {k j : Nat} {x : Str} {sp : Sp} {dvs : List V} {E : XK} {p pos : Pos} {e : Expr} {es : List Expr} {t : TA}
theorem pe_cl (c : Cl Γ CX k x sp dvs) (g : Good (Γ.at j) X) (hk : k ≤ j) (hg : Gl X x) (hx : Passes CX X E) (ha : PA X (e :: es) t)
    (hdb : (x == ("__debug__" : Str)) = false := by decide) (he : starEach (e :: es) X.env = (false, eval e X.env) :: starEach es X.env := by rfl) (hpl : (backTo pos (starEach es X.env)).any (·.1) = false := by rfl) :
    PE X (.Call (.Name x p) (e :: es) [] pos) (tCall sp dvs E t) := by
  obtain ⟨P, w, K, mg, base, lv⟩ := Γ
  obtain ⟨f, fd, ps, ds, F, m, kp, b, d⟩ := c.ex
  obtain ⟨h1, h2, h3, h4, h5, _, hr⟩ := g
  simp only at h1 h2 h3 h4 h5 hr
  subst h1 h2 h3 h4 h5
  exact pe_call (F.mono hk) hr hg m kp b d hx ha hdb he hpl
theorem pe_cl0 (c : Cl Γ CX k x sp dvs) (g : Good (Γ.at j) X) (hk : k ≤ j) (hg : Gl X x) (hx : Passes CX X E)
    (hdb : (x == ("__debug__" : Str)) = false := by decide) : PE X (.Call (.Name x p) [] [] pos) (tCall sp dvs E tNil) := by
  obtain ⟨P, w, K, mg, base, lv⟩ := Γ
  obtain ⟨f, fd, ps, ds, F, m, kp, b, d⟩ := c.ex
  obtain ⟨h1, h2, h3, h4, h5, _, hr⟩ := g
  simp only at h1 h2 h3 h4 h5 hr
  subst h1 h2 h3 h4 h5
  exact pe_call0 (F.mono hk) hr hg m kp b d hx hdb
end
end G
namespace G
open PySem PySem.Spec PyProof.Rows L2

/-! ### readings that reduce by computation where the values are known -/
/-- the i-th slot's value -/
def so : Option V → (V → Prop) → Prop
  | some v, k => k v
  | none, _ => False
def sl : L2.St → Nat → (V → Prop) → Prop
  | [], _, _ => False
  | o :: _, 0, k => so o k
  | _ :: r, n + 1, k => sl r n k
theorem sl_get : ∀ {σ : L2.St} {i : Nat} {k : V → Prop}, sl σ i k → ∃ v, σ[i]? = some (some v) ∧ k v
  | some v :: _, 0, k, h => ⟨v, rfl, h⟩
  | none :: _, 0, _, h => h.elim
  | o :: r, n + 1, k, h => by
    obtain ⟨v, e, q⟩ := sl_get (σ := r) (i := n) h
    exact ⟨v, by simpa using e, q⟩
  | [], _, _, h => h.elim
/-- the name x is a place of the def's own, i among N; it is no name that the machine treats apart -/
def nvB (N : List Str) (sc : Scope) (i : Nat) (x : Str) : Bool := decide (N[i]? = some x) && (sc.names.lookup x == some .local || sc.names.lookup x == some .cell || sc.names.lookup x == some .free) && !(x == ("__debug__" : Str)) && !(x == ("__classdict__" : Str))
/-- .. and it may be stored -/
def lvB (N : List Str) (sc : Scope) (i : Nat) (x : Str) : Bool := decide (N[i]? = some x) && (sc.names.lookup x == some .local || sc.names.lookup x == some .cell)
/-- the name x is a global one of the def -/
def gvB (sc : Scope) (x : Str) : Bool := (sc.names.lookup x == some .globalImplicit) && !(x == ("__debug__" : Str)) && !(x == ("__name__" : Str))
theorem nv_of {N : List Str} {sc : Scope} {i : Nat} {x : Str} (h : nvB N sc i x = true) : N[i]? = some x ∧ Vis sc x ∧ (x == ("__debug__" : Str)) = false ∧ (x == ("__classdict__" : Str)) = false := by
  unfold nvB at h
  simp only [Bool.and_eq_true, Bool.or_eq_true, decide_eq_true_eq, beq_iff_eq, Bool.not_eq_true'] at h
  obtain ⟨⟨⟨h1, h2⟩, h3⟩, h4⟩ := h
  exact ⟨h1, h2.elim (fun h => h.elim .inl fun h => .inr (.inl h)) fun h => .inr (.inr h), h3, h4⟩
theorem lv_of {N : List Str} {sc : Scope} {i : Nat} {x : Str} (h : lvB N sc i x = true) : N[i]? = some x ∧ Loc sc x := by
  unfold lvB at h
  simp only [Bool.and_eq_true, Bool.or_eq_true, decide_eq_true_eq, beq_iff_eq] at h
  exact ⟨h.1, h.2⟩
theorem gv_of {X : Cx} {x : Str} (h : gvB X.env.scope x = true) : Gl X x ∧ (x == ("__debug__" : Str)) = false ∧ x ≠ "__name__" := by
  unfold gvB at h
  simp only [Bool.and_eq_true, beq_iff_eq, Bool.not_eq_true'] at h
  exact ⟨h.1.1, h.1.2, fun z => by rw [z] at h; exact absurd h.2 (by simp)⟩
def tS (i : Nat) : TE := fun σ H Q => sl σ i fun v => Q v H
theorem ps (i : Nat) {X : Cx} {x : Str} {pos : Pos} (h : nvB X.N X.env.scope i x = true) : PE X (.Name x pos) (tS i) :=
  ⟨fun pins s σ H Q I q => (pe_var (nv_of h).1 (nv_of h).2.1 (nv_of h).2.2.1 (nv_of h).2.2.2).run pins s σ H Q I (sl_get q)⟩
/-- the same within a comprehension's block -/
theorem psr (i : Nat) {X : Cx} {x : Str} {pos : Pos} (hN : X.N[i]? = some x := by rfl) (hv : Vis X.env.scope x := by first | exact Or.inl rfl | exact Or.inr (Or.inl rfl) | exact Or.inr (Or.inr rfl)) (hd : (x == ("__debug__" : Str)) = false := by decide)
    (hcd : (x == ("__classdict__" : Str)) = false := by decide) : PE X (.Name x pos) (tS i) :=
  ⟨fun pins s σ H Q I h => (pe_var hN hv hd hcd).run pins s σ H Q I (sl_get h)⟩
theorem pgn {i : Nat} {X : Cx} {x : Str} {pos : Pos} (hN : X.N.Nodup) (h : lvB X.N X.env.scope i x = true) (hf : X.fn x = true ∨ X.env.scope.names.lookup x = some .local := by first | exact .inl rfl | exact .inr rfl) : PG X (.Name x pos) (gName i) := pg_name hN (lv_of h).1 (lv_of h).2 hf
theorem pst {i : Nat} {X : Cx} {x : Str} {e : Expr} {te : TE} {pos pos' : Pos} (hN : X.N.Nodup) (h : lvB X.N X.env.scope i x = true) (he : PE X e te) (hs : swapsWith e (some (.Name x pos')) pos.line X.env = pure false := by rfl) (hf : X.fn x = true ∨ X.env.scope.names.lookup x = some .local := by first | exact .inl rfl | exact .inr rfl) :
    PS X (.Assign [.Name x pos'] e pos) (tAsg te (gName i)) := ps_set hN (lv_of h).1 (lv_of h).2 he hs hf
/-- a built-in function, a built-in type, called -/
theorem pcb {X : Cx} {x : Str} {p pos : Pos} {e : Expr} {es : List Expr} {t : TA} {id : String} {r : List V → Hp → VK → Prop} (hc : CallR X (.builtin id) r) (hg : gvB X.env.scope x = true) (hm : X.mg x = none) (hv : bootBuiltins x = some (.builtin id)) (ha : PA X (e :: es) t)
    (he : starEach (e :: es) X.env = (false, eval e X.env) :: starEach es X.env := by rfl) (hpl : (backTo pos (starEach es X.env)).any (·.1) = false := by rfl) : PE X (.Call (.Name x p) (e :: es) [] pos) (tCB r t) :=
  pe_callB hc (gv_of hg).1 hm hv ha (gv_of hg).2.2 (gv_of hg).2.1 he hpl
theorem pct {X : Cx} {x : Str} {p pos : Pos} {e : Expr} {es : List Expr} {t : TA} {T : String} {r : List V → Hp → VK → Prop} (hc : CallR X (.type T) r) (hg : gvB X.env.scope x = true) (hm : X.mg x = none) (hv : bootBuiltins x = some (.type T)) (ha : PA X (e :: es) t)
    (he : starEach (e :: es) X.env = (false, eval e X.env) :: starEach es X.env := by rfl) (hpl : (backTo pos (starEach es X.env)).any (·.1) = false := by rfl) : PE X (.Call (.Name x p) (e :: es) [] pos) (tCB r t) :=
  pe_callTy hc (gv_of hg).1 hm hv ha (gv_of hg).2.2 (gv_of hg).2.1 he hpl
theorem pct0 {X : Cx} {x : Str} {p pos : Pos} {T : String} {r : List V → Hp → VK → Prop} (hc : CallR X (.type T) r) (hg : gvB X.env.scope x = true) (hm : X.mg x = none) (hv : bootBuiltins x = some (.type T)) : PE X (.Call (.Name x p) [] [] pos) (tCB r tNil) :=
  pe_callTy0 hc (gv_of hg).1 hm hv (gv_of hg).2.2 (gv_of hg).2.1
/-- a def of the module, called -/
theorem pcl {Γ : Gm} {X : Cx} {CX : CXT} {k j : Nat} {x : Str} {sp : Sp} {dvs : List V} {E : XK} {p pos : Pos} {e : Expr} {es : List Expr} {t : TA} (c : Cl Γ CX k x sp dvs) (g : Good (Γ.at j) X) (hk : k ≤ j) (hg : gvB X.env.scope x = true) (hx : Passes CX X E) (ha : PA X (e :: es) t)
    (he : starEach (e :: es) X.env = (false, eval e X.env) :: starEach es X.env := by rfl) (hpl : (backTo pos (starEach es X.env)).any (·.1) = false := by rfl) :
    PE X (.Call (.Name x p) (e :: es) [] pos) (tCall sp dvs E t) := pe_cl c g hk (gv_of hg).1 hx ha (gv_of hg).2.1 he hpl
theorem pcl0 {Γ : Gm} {X : Cx} {CX : CXT} {k j : Nat} {x : Str} {sp : Sp} {dvs : List V} {E : XK} {p pos : Pos} (c : Cl Γ CX k x sp dvs) (g : Good (Γ.at j) X) (hk : k ≤ j) (hg : gvB X.env.scope x = true) (hx : Passes CX X E) :
    PE X (.Call (.Name x p) [] [] pos) (tCall sp dvs E tNil) := pe_cl0 c g hk (gv_of hg).1 hx (gv_of hg).2.1
def asB (x : V) (P : Bool → Prop) : Prop := match x with
  | .bl b => P b
  | _ => False
theorem asB_eq (x : V) (P : Bool → Prop) : asB x P = ∃ k, x = .bl k ∧ P k := by
  refine propext ⟨fun h => ?_, fun ⟨k, e, h⟩ => by subst e; exact h⟩
  cases x <;> first | exact ⟨_, rfl, h⟩ | exact h.elim
def asI (x : V) (P : Int → Prop) : Prop := match x with
  | .int i => P i
  | _ => False
theorem asI_eq (x : V) (P : Int → Prop) : asI x P = ∃ k, x = .int k ∧ P k := by
  refine propext ⟨fun h => ?_, fun ⟨k, e, h⟩ => by subst e; exact h⟩
  cases x <;> first | exact ⟨_, rfl, h⟩ | exact h.elim
def br (b : Bool) (A B : Prop) : Prop := match b with
  | true => A
  | false => B
theorem br_eq (b : Bool) (A B : Prop) : (if b = true then A else B) = br b A B := by cases b <;> simp [br]
theorem br_d {p : Prop} [Decidable p] {A B : Prop} (h1 : p → A) (h2 : ¬ p → B) : br (decide p) A B := by
  by_cases h : p
  · rw [decide_eq_true h]; exact h1 h
  · rw [decide_eq_false h]; exact h2 h
theorem br_b {b : Bool} {A B : Prop} (h1 : b = true → A) (h2 : b = false → B) : br b A B := by
  cases b
  · exact h2 rfl
  · exact h1 rfl
/-- truth -/
def tru (K : PySem.W.Frag) (x : V) (H : Hp) (P : Bool → Prop) : Prop := match x with
  | .bl b => P b
  | .non => P false
  | .int i => P (i != 0)
  | .str y => y.length ≤ sizeLine ∧ P ((y.length : Int) != 0)
  | .byt y => y.size ≤ sizeLine ∧ P ((y.size : Int) != 0)
  | .ref p => ∃ k, TruV K (.ref p) H k ∧ P k
  | _ => False
theorem tru_eq (K : PySem.W.Frag) (x : V) (H : Hp) (P : Bool → Prop) : tru K x H P = ∃ k, TruV K x H k ∧ P k := by
  refine propext ⟨fun h => ?_, fun ⟨k, e, h⟩ => ?_⟩
  · cases x <;> first | exact ⟨_, rfl, h⟩ | exact ⟨_, ⟨h.1, rfl⟩, h.2⟩ | exact h | exact h.elim
  · cases x <;> first | (cases e; exact h) | (obtain ⟨e1, e2⟩ := e; subst e2; exact ⟨e1, h⟩) | exact ⟨k, e, h⟩ | exact e.elim
section
variable {Γ : Gm} {X : Cx} {a b c e o : Expr} {es : List Expr} {ta tb tc te : TE} {pos p : Pos} {tt tA tB' : TT} {t u : TS} {x : Str} {tr : TA}

/-! ### operators by values -/
def oAdd (Γ : Gm) : V → V → Hp → VK → Prop
  | .int i, .int j, H, Q => Q (.int (i + j)) H
  | .str a, .str b, H, Q => a.length + b.length ≤ sizeLine ∧ Q (.str (a ++ b)) H
  | x, y, H, Q => WO Γ (binaryOp .Add) x y H Q
def oSub (Γ : Gm) : V → V → Hp → VK → Prop
  | .int i, .int j, H, Q => Q (.int (i - j)) H
  | x, y, H, Q => WO Γ (binaryOp .Sub) x y H Q
def oMul (Γ : Gm) : V → V → Hp → VK → Prop
  | .int i, .int j, H, Q => CMul i j ∧ Q (.int (i * j)) H
  | x, y, H, Q => WO Γ (binaryOp .Mult) x y H Q
def oDiv (Γ : Gm) : V → V → Hp → VK → Prop
  | .int i, .int j, H, Q => (0 < j ∧ j < 1073741824) ∧ Q (.int (i / j)) H
  | x, y, H, Q => WO Γ (binaryOp .FloorDiv) x y H Q
def oMod (Γ : Gm) : V → V → Hp → VK → Prop
  | .int i, .int j, H, Q => 0 < j ∧ Q (.int (i % j)) H
  | x, y, H, Q => WO Γ (binaryOp .Mod) x y H Q
def oPow (Γ : Gm) : V → V → Hp → VK → Prop
  | .int i, .int j, H, Q => CPow i j ∧ Q (.int (i ^ j.toNat)) H
  | x, y, H, Q => WO Γ (binaryOp .Pow) x y H Q
def oLt (Γ : Gm) : V → V → Hp → VK → Prop
  | .int i, .int j, H, Q => Q (.bl (decide (i < j))) H
  | x, y, H, Q => WO Γ (compareOp .Lt) x y H Q
def oLe (Γ : Gm) : V → V → Hp → VK → Prop
  | .int i, .int j, H, Q => Q (.bl (decide (i ≤ j))) H
  | x, y, H, Q => WO Γ (compareOp .LtE) x y H Q
def oGt (Γ : Gm) : V → V → Hp → VK → Prop
  | .int i, .int j, H, Q => Q (.bl (decide (j < i))) H
  | x, y, H, Q => WO Γ (compareOp .Gt) x y H Q
def oGe (Γ : Gm) : V → V → Hp → VK → Prop
  | .int i, .int j, H, Q => Q (.bl (decide (j ≤ i))) H
  | x, y, H, Q => WO Γ (compareOp .GtE) x y H Q
def oEq (Γ : Gm) : V → V → Hp → VK → Prop
  | .int i, .int j, H, Q => Q (.bl (decide (i = j))) H
  | .str i, .str j, H, Q => Q (.bl (decide (i = j))) H
  | .bl i, .bl j, H, Q => Q (.bl (decide (i = j))) H
  | .non, .non, H, Q => Q (.bl true) H
  | .non, .int _, H, Q => Q (.bl false) H
  | .int _, .non, H, Q => Q (.bl false) H
  | .non, .bl _, H, Q => Q (.bl false) H
  | .bl _, .non, H, Q => Q (.bl false) H
  | .non, .str _, H, Q => Q (.bl false) H
  | .str _, .non, H, Q => Q (.bl false) H
  | x, y, H, Q => WO Γ (compareOp .Eq) x y H Q
def oNe (Γ : Gm) : V → V → Hp → VK → Prop
  | .int i, .int j, H, Q => Q (.bl (!decide (i = j))) H
  | .str i, .str j, H, Q => Q (.bl (!decide (i = j))) H
  | .bl i, .bl j, H, Q => Q (.bl (!decide (i = j))) H
  | .non, .non, H, Q => Q (.bl false) H
  | .non, .int _, H, Q => Q (.bl true) H
  | .int _, .non, H, Q => Q (.bl true) H
  | .non, .bl _, H, Q => Q (.bl true) H
  | .bl _, .non, H, Q => Q (.bl true) H
  | .non, .str _, H, Q => Q (.bl true) H
  | .str _, .non, H, Q => Q (.bl true) H
  | x, y, H, Q => WO Γ (compareOp .NotEq) x y H Q
def isN (x : V) : Bool := match x with
  | .non => true
  | _ => false
theorem isN_eq (x : V) : decide (x = .non) = isN x := by cases x <;> rfl
def oIs (Γ : Gm) : V → V → Hp → VK → Prop
  | x, .non, H, Q => Q (.bl (isN x)) H
  | x, y, H, Q => WO Γ (compareOp .Is) x y H Q
def oIsNot (Γ : Gm) : V → V → Hp → VK → Prop
  | x, .non, H, Q => Q (.bl (!isN x)) H
  | x, y, H, Q => WO Γ (compareOp .IsNot) x y H Q
abbrev oIn (Γ : Gm) : R2 := WO Γ (compareOp .In)
abbrev oNotIn (Γ : Gm) : R2 := WO Γ (compareOp .NotIn)
abbrev oShr (Γ : Gm) : R2 := WO Γ (binaryOp .RShift)
abbrev oOr (Γ : Gm) : R2 := WO Γ (binaryOp .BitOr)
abbrev oAnd (Γ : Gm) : R2 := WO Γ (binaryOp .BitAnd)
abbrev oXor (Γ : Gm) : R2 := WO Γ (binaryOp .BitXor)
/-- from a reading by values to the weakest -/
theorem opr_of {f : Value → Value → Sem Value} {r : R2} (g : Good Γ X) (h : ∀ x y H Q, r x y H Q → WO Γ f x y H Q) : OpR X f r := fun pins s σ H x y v u Q I rx ry q => WO.ok g pins s σ H x y v u Q I rx ry (h x y H Q q)
theorem k_add (g : Good Γ X) : OpR X (binaryOp .Add) (oAdd Γ) := opr_of g fun x y H Q h => by
  cases x <;> cases y <;> first | exact h | exact wo_add h | exact ⟨_, fun _ _ => op_add_str, _, _, rfl, rfl, h.1, h.2⟩
theorem k_sub (g : Good Γ X) : OpR X (binaryOp .Sub) (oSub Γ) := opr_of g fun x y H Q h => by
  cases x <;> cases y <;> first | exact h | exact wo_sub h
theorem k_mul (g : Good Γ X) : OpR X (binaryOp .Mult) (oMul Γ) := opr_of g fun x y H Q h => by
  cases x <;> cases y <;> first | exact h | exact ⟨_, fun _ _ => op_mul, _, _, rfl, rfl, h.1, h.2⟩
theorem k_div (g : Good Γ X) : OpR X (binaryOp .FloorDiv) (oDiv Γ) := opr_of g fun x y H Q h => by
  cases x <;> cases y <;> first | exact h | exact ⟨_, fun _ _ => op_fdiv, _, _, rfl, rfl, h.1, h.2⟩
theorem k_mod (g : Good Γ X) : OpR X (binaryOp .Mod) (oMod Γ) := opr_of g fun x y H Q h => by
  cases x <;> cases y <;> first | exact h | exact wo_mod h.1 h.2
theorem k_pow (g : Good Γ X) : OpR X (binaryOp .Pow) (oPow Γ) := opr_of g fun x y H Q h => by
  cases x <;> cases y <;> first | exact h | exact ⟨_, fun _ _ => op_pow, _, _, rfl, rfl, h.1, h.2⟩
theorem k_lt (g : Good Γ X) : OpR X (compareOp .Lt) (oLt Γ) := opr_of g fun x y H Q h => by
  cases x <;> cases y <;> first | exact h | exact wo_lt h
theorem k_le (g : Good Γ X) : OpR X (compareOp .LtE) (oLe Γ) := opr_of g fun x y H Q h => by
  cases x <;> cases y <;> first | exact h | exact wo_le h
theorem k_gt (g : Good Γ X) : OpR X (compareOp .Gt) (oGt Γ) := opr_of g fun x y H Q h => by
  cases x <;> cases y <;> first | exact h | exact wo_gt h
theorem k_ge (g : Good Γ X) : OpR X (compareOp .GtE) (oGe Γ) := opr_of g fun x y H Q h => by
  cases x <;> cases y <;> first | exact h | exact wo_ge h
theorem k_eq (g : Good Γ X) : OpR X (compareOp .Eq) (oEq Γ) := opr_of g fun x y H Q h => by
  cases x <;> cases y <;> first | exact h | exact wo_eqI h | exact wo_eqS h | exact ⟨_, fun _ _ => op_eq, rfl, h⟩ | exact ⟨_, fun _ _ => op_eq, rfl, by
    rename_i i j
    have e : decide (V.bl i = V.bl j) = decide (i = j) := decide_eq_decide.mpr ⟨fun z => V.bl.inj z, fun z => by rw [z]⟩
    rw [e]; exact h⟩
theorem k_ne (g : Good Γ X) : OpR X (compareOp .NotEq) (oNe Γ) := opr_of g fun x y H Q h => by
  cases x <;> cases y <;> first | exact h | exact wo_neI h | exact wo_neS h | exact ⟨_, fun _ _ => op_ne, rfl, h⟩ | exact ⟨_, fun _ _ => op_ne, rfl, by
    rename_i i j
    have e : decide (V.bl i = V.bl j) = decide (i = j) := decide_eq_decide.mpr ⟨fun z => V.bl.inj z, fun z => by rw [z]⟩
    rw [e]; exact h⟩
theorem k_is (g : Good Γ X) : OpR X (compareOp .Is) (oIs Γ) := opr_of g fun x y H Q h => by
  cases y <;> first | exact h | exact wo_isN (by rw [isN_eq]; exact h)
theorem k_isnot (g : Good Γ X) : OpR X (compareOp .IsNot) (oIsNot Γ) := opr_of g fun x y H Q h => by
  cases y <;> first | exact h | exact wo_notN (by rw [isN_eq]; exact h)
def uNeg (Γ : Gm) : V → Hp → VK → Prop
  | .int i, H, Q => Q (.int (-i)) H
  | x, H, Q => WU Γ (unaryOp .USub) x H Q
theorem k_neg (g : Good Γ X) : UnR X (unaryOp .USub) (uNeg Γ) := fun pins s σ H x v Q I rx q => WU.ok g pins s σ H x v Q I rx (by cases x <;> first | exact q | exact wu_neg q)

/-! ### calls of built-ins by values -/
def cInt (Γ : Gm) : List V → Hp → VK → Prop
  | [.int i], H, Q => Q (.int i) H
  | [.bl b], H, Q => Q (.int (if b then 1 else 0)) H
  | xs, H, Q => WC Γ (.type "int") xs H Q
def cAbs (Γ : Gm) : List V → Hp → VK → Prop
  | [.int i], H, Q => Q (.int (if i < 0 then -i else i)) H
  | xs, H, Q => WC Γ (.builtin "abs") xs H Q
def cMin (Γ : Gm) : List V → Hp → VK → Prop
  | [.int i, .int j], H, Q => Q (.int (if j < i then j else i)) H
  | xs, H, Q => WC Γ (.builtin "min") xs H Q
def cMax (Γ : Gm) : List V → Hp → VK → Prop
  | [.int i, .int j], H, Q => Q (.int (if j > i then j else i)) H
  | xs, H, Q => WC Γ (.builtin "max") xs H Q
def cLen (Γ : Gm) : List V → Hp → VK → Prop
  | [.str z], H, Q => z.length ≤ sizeLine ∧ Q (.int z.length) H
  | xs, H, Q => WC Γ (.builtin "len") xs H Q
theorem callr_of {f : Value} {r : List V → Hp → VK → Prop} (g : Good Γ X) (h : ∀ xs H Q, r xs H Q → WC Γ f xs H Q) : CallR X f r := fun pins s σ H xs us Q I rx q => WC.ok g pins s σ H xs us Q I rx (h xs H Q q)
theorem k_int (g : Good Γ X) : CallR X (.type "int") (cInt Γ) := callr_of g fun xs H Q h => by
  rcases xs with _ | ⟨x, _ | ⟨y, r⟩⟩
  · exact h
  · cases x <;> first | exact h | exact wc_int h | exact wc_intB h
  · cases x <;> exact h
theorem k_abs (g : Good Γ X) : CallR X (.builtin "abs") (cAbs Γ) := callr_of g fun xs H Q h => by
  rcases xs with _ | ⟨x, _ | ⟨y, r⟩⟩
  · exact h
  · cases x <;> first | exact h | exact wc_abs h
  · cases x <;> exact h
theorem clenS (g : Good Γ X) : CallR X (.builtin "len") (fun xs H Q => ∃ x n, xs = [x] ∧ LenV Γ.K x H n ∧ Q (.int n) H) := by rw [← g.K]; exact call_len
theorem k_len (g : Good Γ X) : CallR X (.builtin "len") (cLen Γ) := callr_of g fun xs H Q h => by
  rcases xs with _ | ⟨x, _ | ⟨y, r⟩⟩
  · exact h
  · cases x <;> first | exact h | exact ⟨_, fun _ g => clenS g, _, _, rfl, ⟨h.1, rfl⟩, h.2⟩
  · cases x <;> exact h
theorem k_min (g : Good Γ X) : CallR X (.builtin "min") (cMin Γ) := callr_of g fun xs H Q h => by
  rcases xs with _ | ⟨x, _ | ⟨y, _ | ⟨z, r⟩⟩⟩
  · exact h
  · cases x <;> exact h
  · cases x <;> cases y <;> first | exact h | exact wc_min2 h
  · cases x <;> cases y <;> exact h
theorem k_max (g : Good Γ X) : CallR X (.builtin "max") (cMax Γ) := callr_of g fun xs H Q h => by
  rcases xs with _ | ⟨x, _ | ⟨y, _ | ⟨z, r⟩⟩⟩
  · exact h
  · cases x <;> exact h
  · cases x <;> cases y <;> first | exact h | exact wc_max2 h
  · cases x <;> cases y <;> exact h

/-! ### tests, branches -/
def tT (t : TE) : TT := fun σ H Q => t σ H fun x H' => asB x fun k => Q k H'
theorem tT_eq (t : TE) : tT t = tTest t := by
  funext σ H Q
  show t σ H (fun x H' => asB x fun k => Q k H') = t σ H fun x H' => ∃ k, x = .bl k ∧ Q k H'
  congr 1
  funext x H'
  exact asB_eq x _
theorem pt_cm {op : CmpOp} {r : R2} (ho : OpR X (compareOp op) r) (ha : PE X a ta) (hb : PE X b tb) (hm : behindInMarks op b = false) : PT X (.Compare a [op] [b] pos) (tT (tOp r ta tb)) := by
  rw [tT_eq]; exact pt_cmpR ho ha hb hm
def tCh (r r' : R2) (ta tb tc : TE) : TE := fun σ H Q => ta σ H fun x H1 => tb σ H1 fun y H2 => r x y H2 fun z H3 => asB z fun k => br k (tc σ H3 fun w' H4 => r' y w' H4 Q) (Q (.bl false) H3)
theorem tCh_eq (r r' : R2) (ta tb tc : TE) : tCh r r' ta tb tc = tChain r r' ta tb tc := by
  funext σ H Q
  unfold tCh tChain
  congr 1; funext x H1
  congr 1; funext y H2
  congr 1; funext z H3
  rw [asB_eq]
  congr 1; funext k
  rw [br_eq]
theorem pe_ch {op op' : CmpOp} {r r' : R2} (ho : OpR X (compareOp op) r) (ho' : OpR X (compareOp op') r') (ha : PE X a ta) (hb : PE X b tb) (hc : PE X c tc)
    (hm : lastMarks [op, op'] [b, c] = false := by with_unfolding_all rfl) : PE X (.Compare a [op, op'] [b, c] pos) (tCh r r' ta tb tc) := by
  rw [tCh_eq]; exact pe_chain ho ho' ha hb hc hm
theorem pt_ch {op op' : CmpOp} {r r' : R2} (ho : OpR X (compareOp op) r) (ho' : OpR X (compareOp op') r') (ha : PE X a ta) (hb : PE X b tb) (hc : PE X c tc)
    (hm : lastMarks [op, op'] [b, c] = false := by with_unfolding_all rfl) : PT X (.Compare a [op, op'] [b, c] pos) (tT (tCh r r' ta tb tc)) := by
  rw [tT_eq, tCh_eq]; exact pt_chain ho ho' ha hb hc hm
def tIfB (t : TT) (ta tb : TE) : TE := fun σ H Q => t σ H fun c H1 => br c (ta σ H1 Q) (tb σ H1 Q)
theorem tIfB_eq (t : TT) (ta tb : TE) : tIfB t ta tb = tIf t ta tb := by
  funext σ H Q
  unfold tIfB tIf
  congr 1; funext c H1
  exact (br_eq _ _ _).symm
theorem pe_ifB (hc : PT X c tA) (ha : PE X a ta) (hb : PE X b tb) : PE X (.IfExp c a b pos) (tIfB tA ta tb) := by rw [tIfB_eq]; exact pe_ifExp hc ha hb
def tIfSB (c : TT) (t u : TS) : TS := fun D σ H => c σ H fun b H1 => br b (t D σ H1) (u D σ H1)
theorem tIfSB_eq (c : TT) (t u : TS) : tIfSB c t u = tIfS c t u := by
  funext D σ H
  unfold tIfSB tIfS
  congr 1; funext c H1
  exact (br_eq _ _ _).symm
theorem ps_ifB {a b : List Stmt} (hc : PT X c tt) (ha : PSs X a t) (hb : PSs X b u) : PS X (.If c a b pos) (tIfSB tt t u) := by rw [tIfSB_eq]; exact ps_if hc ha hb
def tAndB (t u : TT) : TT := fun σ H Q => t σ H fun c H1 => br c (u σ H1 Q) (Q false H1)
def tOrB (t u : TT) : TT := fun σ H Q => t σ H fun c H1 => br c (Q true H1) (u σ H1 Q)
theorem tAndB_eq (t u : TT) : tAndB t u = tAnd t u := by
  funext σ H Q
  unfold tAndB tAnd
  congr 1; funext c H1
  exact (br_eq _ _ _).symm
theorem tOrB_eq (t u : TT) : tOrB t u = tOr t u := by
  funext σ H Q
  unfold tOrB tOr
  congr 1; funext c H1
  exact (br_eq _ _ _).symm
theorem pw_andB {rest : List Expr} (ha : PT X a tA) (hb : PW X (.BoolOp .And (b :: rest) pos) tB') : PW X (.BoolOp .And (a :: b :: rest) pos) (tAndB tA tB') := by rw [tAndB_eq]; exact pw_and ha hb
theorem pw_orB {rest : List Expr} (ha : PT X a tA) (hb : PW X (.BoolOp .Or (b :: rest) pos) tB') : PW X (.BoolOp .Or (a :: b :: rest) pos) (tOrB tA tB') := by rw [tOrB_eq]; exact pw_or ha hb
/-- truth of any value as a test -/
def tTr (Γ : Gm) (ta : TE) : TT := fun σ H Q => ta σ H fun x H' => tru Γ.K x H' fun k => Q k H'
theorem tTr_eq (g : Good Γ X) (ta : TE) : tTr Γ ta = fun σ H Q => ta σ H fun x H' => ∃ k, TruV X.K x H' k ∧ Q k H' := by
  rw [g.K]
  funext σ H Q
  unfold tTr
  congr 1; funext x H'
  exact tru_eq _ _ _ _
theorem pt_tr (g : Good Γ X) (ha : PE X a ta) (he : ∀ whole, isTrue a X.env whole = (do let v ← whole; standAt a.pos; holding [v] (truthy v)) := by intro _; rfl) : PT X a (tTr Γ ta) := by
  rw [tTr_eq g]; exact pt_truth ha he
def tOrB2 (Γ : Gm) (ta tb : TE) : TE := fun σ H Q => ta σ H fun x H1 => tru Γ.K x H1 fun k => br k (Q x H1) (tb σ H1 Q)
def tAndB2 (Γ : Gm) (ta tb : TE) : TE := fun σ H Q => ta σ H fun x H1 => tru Γ.K x H1 fun k => br k (tb σ H1 Q) (Q x H1)
def tNotB (Γ : Gm) (ta : TE) : TE := fun σ H Q => ta σ H fun x H1 => tru Γ.K x H1 fun k => Q (.bl (!k)) H1
theorem pe_or2 {rest : List Expr} (g : Good Γ X) (ha : PE X a ta) (hb : PE X (.BoolOp .Or (b :: rest) pos) tb) : PE X (.BoolOp .Or (a :: b :: rest) pos) (tOrB2 Γ ta tb) := by
  have e : tOrB2 Γ ta tb = tOrT X.K ta tb := by
    rw [g.K]
    funext σ H Q
    unfold tOrB2 tOrT
    congr 1; funext x H'
    rw [tru_eq]
    congr 1; funext k
    rw [br_eq]
  rw [e]; exact pe_orT ha hb
theorem pe_and2 {rest : List Expr} (g : Good Γ X) (ha : PE X a ta) (hb : PE X (.BoolOp .And (b :: rest) pos) tb) : PE X (.BoolOp .And (a :: b :: rest) pos) (tAndB2 Γ ta tb) := by
  have e : tAndB2 Γ ta tb = tAndT X.K ta tb := by
    rw [g.K]
    funext σ H Q
    unfold tAndB2 tAndT
    congr 1; funext x H'
    rw [tru_eq]
    congr 1; funext k
    rw [br_eq]
  rw [e]; exact pe_andT ha hb
theorem pe_not2 (g : Good Γ X) (ha : PE X a ta) : PE X (.UnaryOp .Not a pos) (tNotB Γ ta) := by
  have e : tNotB Γ ta = tNotT X.K ta := by
    rw [g.K]
    funext σ H Q
    unfold tNotB tNotT
    congr 1; funext x H'
    exact tru_eq _ _ _ _
  rw [e]; exact pe_notT ha

/-! ### several targets, slices' parts, methods of built-in types -/
def two (vs : List V) (P : V → V → Prop) : Prop := match vs with
  | [v, w] => P v w
  | _ => False
def three (vs : List V) (P : V → V → V → Prop) : Prop := match vs with
  | [v, w, z] => P v w z
  | _ => False
theorem two_eq (vs : List V) (P : V → V → Prop) : two vs P = ∃ v w, vs = [v, w] ∧ P v w := by
  refine propext ⟨fun h => ?_, fun ⟨v, w, e, h⟩ => by subst e; exact h⟩
  rcases vs with _ | ⟨v, _ | ⟨w, _ | ⟨z, r⟩⟩⟩ <;> first | exact ⟨_, _, rfl, h⟩ | exact h.elim
theorem three_eq (vs : List V) (P : V → V → V → Prop) : three vs P = ∃ v w z, vs = [v, w, z] ∧ P v w z := by
  refine propext ⟨fun h => ?_, fun ⟨v, w, z, e, h⟩ => by subst e; exact h⟩
  rcases vs with _ | ⟨v, _ | ⟨w, _ | ⟨z, _ | ⟨y, r⟩⟩⟩⟩ <;> first | exact ⟨_, _, _, rfl, h⟩ | exact h.elim
def tP2 (i j : Nat) (ta : TA) : TS := fun D σ H => ta σ H fun vs H1 => two vs fun v w => D.nx ((σ.set i (some v)).set j (some w)) H1
def tP3 (i j l : Nat) (ta : TA) : TS := fun D σ H => ta σ H fun vs H1 => three vs fun u v w => D.nx (((σ.set i (some u)).set j (some v)).set l (some w)) H1
theorem tP2_eq (i j : Nat) (ta : TA) : tP2 i j ta = tPar i j ta := by
  funext D σ H
  unfold tP2 tPar
  congr 1; funext vs H1
  exact two_eq _ _
theorem tP3_eq (i j l : Nat) (ta : TA) : tP3 i j l ta = tPar3 i j l ta := by
  funext D σ H
  unfold tP3 tPar3
  congr 1; funext vs H1
  exact three_eq _ _
theorem ps_p2 {i j : Nat} {x y : Str} {a b : Expr} {ta : TA} {px py pt : Pos} {kt k2 pt2} (hc : X.calm = true) (hN : X.N.Nodup) (hi : X.N[i]? = some x) (hj : X.N[j]? = some y) (hij : i ≠ j)
    (hx : X.env.scope.names.lookup x = some .local) (hy : X.env.scope.names.lookup y = some .local) (ha : PA X [a, b] ta)
    (hw : swappedStores [.Tuple [.Name x px, .Name y py] kt pt] (.Tuple [a, b] k2 pt2) X.env = pure (some [x, y]))
    (hs : swapsWithSole [.Tuple [.Name x px, .Name y py] kt pt] (.Tuple [a, b] k2 pt2) pos.line X.env = pure false := by rfl) :
    PS X (.Assign [.Tuple [.Name x px, .Name y py] kt pt] (.Tuple [a, b] k2 pt2) pos) (tP2 i j ta) := by rw [tP2_eq]; exact ps_par hc hN hi hj hij hx hy ha hw hs
theorem ps_p3 {i j l : Nat} {x y z : Str} {a b c : Expr} {ta : TA} {px py pz pt pos : Pos} {kt k2 pt2} (hc : X.calm = true) (hN : X.N.Nodup) (hi : X.N[i]? = some x) (hj : X.N[j]? = some y) (hl : X.N[l]? = some z) (hij : i ≠ j) (hil : i ≠ l) (hjl : j ≠ l)
    (hx : X.env.scope.names.lookup x = some .local) (hy : X.env.scope.names.lookup y = some .local) (hz : X.env.scope.names.lookup z = some .local) (ha : PA X [a, b, c] ta)
    (hw : swappedStores [.Tuple [.Name x px, .Name y py, .Name z pz] kt pt] (.Tuple [a, b, c] k2 pt2) X.env = pure (some [x, y, z]))
    (hs : swapsWithSole [.Tuple [.Name x px, .Name y py, .Name z pz] kt pt] (.Tuple [a, b, c] k2 pt2) pos.line X.env = pure false := by rfl) :
    PS X (.Assign [.Tuple [.Name x px, .Name y py, .Name z pz] kt pt] (.Tuple [a, b, c] k2 pt2) pos) (tP3 i j l ta) := by rw [tP3_eq]; exact ps_par3 hc hN hi hj hl hij hil hjl hx hy hz ha hw hs
def tPt (t : TE) : TO := fun σ H Q => t σ H fun x H1 => asI x fun i => Q (some i) H1
theorem tPt_eq (t : TE) : tPt t = tPart t := by
  funext σ H Q
  unfold tPt tPart
  congr 1; funext x H1
  exact asI_eq _ _
theorem po_pt (h : PE X e te) : PO X (some e) (tPt te) := by rw [tPt_eq]; exact po_some h
theorem pe_bmK {name : Str} {apos cpos : Pos} {T id : String} {r : V → List V → Hp → VK → Prop} {to : TE} {t : TA} (g : Good Γ X) (pa : PlainAttrs T) (slot : Slot T name id) (hty : typeOf (.builtin id) = pure (.type "method_descriptor")) (hm : MtR X id r) (ho : PE X o to) (ha : PA X (e :: es) t)
    (hbase : attributeBase o name X.env (eval o X.env) = eval o X.env := by rfl)
    (hfew : ((backTo cpos (starEach (e :: es) X.env)).all (fun x => !x.1) && (backToKw cpos (keywordEach [] X.env)).all (fun x => x.1.isSome)
      && decide ((e :: es).length + ([] : List Keyword).length + (if ([] : List Keyword).isEmpty then 0 else 1) < 30)) = true := by rfl)
    (hline : (apos.endLine == cpos.line) = true := by rfl) (hs : starEach (e :: es) X.env = (false, eval e X.env) :: starEach es X.env := by rfl) (hplain : (backTo cpos (starEach es X.env)).any (·.1) = false := by rfl) :
    PE X (.Call (.Attribute o name apos) (e :: es) [] cpos) (tBM Γ.K T r to t) := by rw [← g.K]; exact pe_bm pa slot hty hm ho ha hbase hfew hline hs hplain
theorem pe_bmK0 {name : Str} {apos cpos : Pos} {T id : String} {r : V → List V → Hp → VK → Prop} {to : TE} (g : Good Γ X) (pa : PlainAttrs T) (slot : Slot T name id) (hty : typeOf (.builtin id) = pure (.type "method_descriptor")) (hm : MtR X id r) (ho : PE X o to)
    (hbase : attributeBase o name X.env (eval o X.env) = eval o X.env := by rfl) (hline : (apos.endLine == cpos.line) = true := by rfl) : PE X (.Call (.Attribute o name apos) [] [] cpos) (tBM0 Γ.K T r to) := by
  rw [← g.K]; exact pe_bm0 pa slot hty hm ho hbase hline
def rJ (K : PySem.W.Frag) : V → List V → Hp → VK → Prop := fun x xs H Q => ∃ a p, ∃ ys : List Str, x = .str a ∧ xs = [.ref p] ∧ (SqL K H p (ys.map V.str) ∨ SqT K H p (ys.map V.str)) ∧ (ys.map (·.length)).sum + ys.length * a.length ≤ 16777216 ∧ Q (.str (Txt.join a ys)) H
theorem pe_jn {apos pos : Pos} {to : TE} (g : Good Γ X) (ho : PE X o to) (he : PE X e te) (hs : starEach [e] X.env = [(false, eval e X.env)] := by rfl) (hbase : attributeBase o "join" X.env (eval o X.env) = eval o X.env := by rfl) (hline : (apos.endLine == pos.line) = true := by rfl) :
    PE X (.Call (.Attribute o "join" apos) [e] [] pos) (tM1 (rJ Γ.K) to te) := by rw [← g.K]; exact pe_join ho he hs hbase hline
end

/-! ### what is walked, by the written part's own name -/
section
variable {Γ : Gm} {X : Cx} {tg e : Expr} {te : TE} {ta : TA}
theorem pi_l (g : Good Γ X) (h : PE X e te) : PI X tg e (iList Γ.K te) := by rw [← g.K]; exact pi_list h
theorem pi_t (g : Good Γ X) (h : PE X e te) : PI X tg e (iTup Γ.K te) := by rw [← g.K]; exact pi_tup h
theorem pi_en {p pos tpos : Pos} {elts : List Expr} {kk : Nat} (g : Good Γ X) (hg : gvB X.env.scope "enumerate" = true) (hm : X.mg "enumerate" = none) (ha : PA X [e] ta) (hs : starEach [e] X.env = [(false, eval e X.env)] := by rfl) :
    PI X (.Tuple elts kk tpos) (.Call (.Name "enumerate" p) [e] [] pos) (iEnum Γ.K ta) := by rw [← g.K]; exact pi_enum (gv_of hg).1 hm ha hs
theorem pi_r1 {a : Expr} {p pos : Pos} (hg : gvB X.env.scope "range" = true) (hm : X.mg "range" = none) (ha : PA X [a] ta) (hs : starEach [a] X.env = [(false, eval a X.env)] := by rfl) : PI X tg (.Call (.Name "range" p) [a] [] pos) (iRng1 ta) := pi_range1 (gv_of hg).1 hm ha hs
theorem pi_r2 {a b : Expr} {p pos : Pos} (hg : gvB X.env.scope "range" = true) (hm : X.mg "range" = none) (ha : PA X [a, b] ta) (hs : starEach [a, b] X.env = [(false, eval a X.env), (false, eval b X.env)] := by rfl) (hs2 : starEach [b] X.env = [(false, eval b X.env)] := by rfl) :
    PI X tg (.Call (.Name "range" p) [a, b] [] pos) (iRng2 ta) := pi_range2 (gv_of hg).1 hm ha hs hs2
theorem pg_tK {es : List Expr} {k : Nat} {t : TGs} (g : Good Γ X) (n : Nat) (hc : X.calm = true) (h : PGs X es t) (hn : (assignEach es X.env).length = n := by rfl) (hst : (assignEach es X.env).findIdx? (·.1) = none := by rfl) {pos : Pos} : PG X (.Tuple es k pos) (gTup Γ.K n t) := by
  rw [← g.K]; exact pg_tup hc h hn hst
end

/-! ### several targets, by computation -/
def gN : TGs := fun vs σ H Q => match vs with
  | [] => Q σ H
  | _ => False
def gC (t : TG) (u : TGs) : TGs := fun vs σ H Q => match vs with
  | v :: r => t v σ H fun σ' H' => u r σ' H' Q
  | [] => False
theorem gN_eq : gN = gNil := by
  funext vs σ H Q
  refine propext ⟨fun h => ?_, fun ⟨e, h⟩ => by subst e; exact h⟩
  cases vs
  · exact ⟨rfl, h⟩
  · exact h.elim
theorem gC_eq (t : TG) (u : TGs) : gC t u = gCons t u := by
  funext vs σ H Q
  refine propext ⟨fun h => ?_, fun ⟨v, r, e, h⟩ => by subst e; exact h⟩
  cases vs
  · exact h.elim
  · exact ⟨_, _, rfl, h⟩
theorem pgs_0 {X : Cx} : PGs X [] gN := by rw [gN_eq]; exact pgs_nil
theorem pgs_c {X : Cx} {e : Expr} {es : List Expr} {t : TG} {u : TGs} (h1 : PG X e t) (h2 : PGs X es u)
    (hs : (assignEach (e :: es) X.env).map (·.2) = assign e X.env :: (assignEach es X.env).map (·.2) := by rfl) : PGs X (e :: es) (gC t u) := by rw [gC_eq]; exact pgs_cons h1 h2 hs
theorem gt_of {K : PySem.W.Frag} {n : Nat} {t : TGs} {T : Addr} {xs : List V} {σ : L2.St} {H : Hp} {Q : L2.St → Hp → Prop} (m : SqT K H T xs) (hn : xs.length = n) (h : t xs σ H Q) : gTup K n t (.ref T) σ H Q := ⟨T, xs, rfl, m, hn, h⟩

/-! ### what reduces -/
theorem gN_1 {σ : L2.St} {H : Hp} {Q : L2.St → Hp → Prop} : gN [] σ H Q = Q σ H := rfl
theorem gC_1 {t : TG} {u : TGs} {v : V} {r : List V} {σ : L2.St} {H : Hp} {Q : L2.St → Hp → Prop} : gC t u (v :: r) σ H Q = t v σ H fun σ' H' => u r σ' H' Q := rfl
theorem oAdd_1 {Γ : Gm} {H : Hp} {Q : VK} {i : Int} {j : Int} : oAdd Γ (.int i) (.int j) H Q = (Q (.int (i + j)) H) := rfl
theorem oAdd_2 {Γ : Gm} {H : Hp} {Q : VK} {a : Str} {b : Str} : oAdd Γ (.str a) (.str b) H Q = (a.length + b.length ≤ sizeLine ∧ Q (.str (a ++ b)) H) := rfl
theorem oSub_1 {Γ : Gm} {H : Hp} {Q : VK} {i : Int} {j : Int} : oSub Γ (.int i) (.int j) H Q = (Q (.int (i - j)) H) := rfl
theorem oMul_1 {Γ : Gm} {H : Hp} {Q : VK} {i : Int} {j : Int} : oMul Γ (.int i) (.int j) H Q = (CMul i j ∧ Q (.int (i * j)) H) := rfl
theorem oDiv_1 {Γ : Gm} {H : Hp} {Q : VK} {i : Int} {j : Int} : oDiv Γ (.int i) (.int j) H Q = ((0 < j ∧ j < 1073741824) ∧ Q (.int (i / j)) H) := rfl
theorem oMod_1 {Γ : Gm} {H : Hp} {Q : VK} {i : Int} {j : Int} : oMod Γ (.int i) (.int j) H Q = (0 < j ∧ Q (.int (i % j)) H) := rfl
theorem oPow_1 {Γ : Gm} {H : Hp} {Q : VK} {i : Int} {j : Int} : oPow Γ (.int i) (.int j) H Q = (CPow i j ∧ Q (.int (i ^ j.toNat)) H) := rfl
theorem oLt_1 {Γ : Gm} {H : Hp} {Q : VK} {i : Int} {j : Int} : oLt Γ (.int i) (.int j) H Q = (Q (.bl (decide (i < j))) H) := rfl
theorem oLe_1 {Γ : Gm} {H : Hp} {Q : VK} {i : Int} {j : Int} : oLe Γ (.int i) (.int j) H Q = (Q (.bl (decide (i ≤ j))) H) := rfl
theorem oGt_1 {Γ : Gm} {H : Hp} {Q : VK} {i : Int} {j : Int} : oGt Γ (.int i) (.int j) H Q = (Q (.bl (decide (j < i))) H) := rfl
theorem oGe_1 {Γ : Gm} {H : Hp} {Q : VK} {i : Int} {j : Int} : oGe Γ (.int i) (.int j) H Q = (Q (.bl (decide (j ≤ i))) H) := rfl
theorem oEq_1 {Γ : Gm} {H : Hp} {Q : VK} {i : Int} {j : Int} : oEq Γ (.int i) (.int j) H Q = (Q (.bl (decide (i = j))) H) := rfl
theorem oEq_2 {Γ : Gm} {H : Hp} {Q : VK} {i : Str} {j : Str} : oEq Γ (.str i) (.str j) H Q = (Q (.bl (decide (i = j))) H) := rfl
theorem oEq_3 {Γ : Gm} {H : Hp} {Q : VK} {i : Bool} {j : Bool} : oEq Γ (.bl i) (.bl j) H Q = (Q (.bl (decide (i = j))) H) := rfl
theorem oEq_4 {Γ : Gm} {H : Hp} {Q : VK} : oEq Γ .non .non H Q = (Q (.bl true) H) := rfl
theorem oEq_5 {Γ : Gm} {H : Hp} {Q : VK} {z1 : Int} : oEq Γ .non (.int z1) H Q = (Q (.bl false) H) := rfl
theorem oEq_6 {Γ : Gm} {H : Hp} {Q : VK} {z1 : Int} : oEq Γ (.int z1) .non H Q = (Q (.bl false) H) := rfl
theorem oEq_7 {Γ : Gm} {H : Hp} {Q : VK} {z1 : Bool} : oEq Γ .non (.bl z1) H Q = (Q (.bl false) H) := rfl
theorem oEq_8 {Γ : Gm} {H : Hp} {Q : VK} {z1 : Bool} : oEq Γ (.bl z1) .non H Q = (Q (.bl false) H) := rfl
theorem oEq_9 {Γ : Gm} {H : Hp} {Q : VK} {z1 : Str} : oEq Γ .non (.str z1) H Q = (Q (.bl false) H) := rfl
theorem oEq_10 {Γ : Gm} {H : Hp} {Q : VK} {z1 : Str} : oEq Γ (.str z1) .non H Q = (Q (.bl false) H) := rfl
theorem oNe_1 {Γ : Gm} {H : Hp} {Q : VK} {i : Int} {j : Int} : oNe Γ (.int i) (.int j) H Q = (Q (.bl (!decide (i = j))) H) := rfl
theorem oNe_2 {Γ : Gm} {H : Hp} {Q : VK} {i : Str} {j : Str} : oNe Γ (.str i) (.str j) H Q = (Q (.bl (!decide (i = j))) H) := rfl
theorem oNe_3 {Γ : Gm} {H : Hp} {Q : VK} {i : Bool} {j : Bool} : oNe Γ (.bl i) (.bl j) H Q = (Q (.bl (!decide (i = j))) H) := rfl
theorem oNe_4 {Γ : Gm} {H : Hp} {Q : VK} : oNe Γ .non .non H Q = (Q (.bl false) H) := rfl
theorem oNe_5 {Γ : Gm} {H : Hp} {Q : VK} {z1 : Int} : oNe Γ .non (.int z1) H Q = (Q (.bl true) H) := rfl
theorem oNe_6 {Γ : Gm} {H : Hp} {Q : VK} {z1 : Int} : oNe Γ (.int z1) .non H Q = (Q (.bl true) H) := rfl
theorem oNe_7 {Γ : Gm} {H : Hp} {Q : VK} {z1 : Bool} : oNe Γ .non (.bl z1) H Q = (Q (.bl true) H) := rfl
theorem oNe_8 {Γ : Gm} {H : Hp} {Q : VK} {z1 : Bool} : oNe Γ (.bl z1) .non H Q = (Q (.bl true) H) := rfl
theorem oNe_9 {Γ : Gm} {H : Hp} {Q : VK} {z1 : Str} : oNe Γ .non (.str z1) H Q = (Q (.bl true) H) := rfl
theorem oNe_10 {Γ : Gm} {H : Hp} {Q : VK} {z1 : Str} : oNe Γ (.str z1) .non H Q = (Q (.bl true) H) := rfl
theorem oIs_1 {Γ : Gm} {H : Hp} {Q : VK} {x : V} : oIs Γ x .non H Q = (Q (.bl (isN x)) H) := rfl
theorem oIsNot_1 {Γ : Gm} {H : Hp} {Q : VK} {x : V} : oIsNot Γ x .non H Q = (Q (.bl (!isN x)) H) := rfl
theorem uNeg_1 {Γ : Gm} {H : Hp} {Q : VK} {i : Int} : uNeg Γ (.int i) H Q = (Q (.int (-i)) H) := rfl
theorem cInt_1 {Γ : Gm} {H : Hp} {Q : VK} {i : Int} : cInt Γ [.int i] H Q = (Q (.int i) H) := rfl
theorem cInt_2 {Γ : Gm} {H : Hp} {Q : VK} {b : Bool} : cInt Γ [.bl b] H Q = (Q (.int (if b then 1 else 0)) H) := rfl
theorem cAbs_1 {Γ : Gm} {H : Hp} {Q : VK} {i : Int} : cAbs Γ [.int i] H Q = (Q (.int (if i < 0 then -i else i)) H) := rfl
theorem cMin_1 {Γ : Gm} {H : Hp} {Q : VK} {i : Int} {j : Int} : cMin Γ [.int i, .int j] H Q = (Q (.int (if j < i then j else i)) H) := rfl
theorem cMax_1 {Γ : Gm} {H : Hp} {Q : VK} {i : Int} {j : Int} : cMax Γ [.int i, .int j] H Q = (Q (.int (if j > i then j else i)) H) := rfl
theorem cLen_1 {Γ : Gm} {H : Hp} {Q : VK} {z : Str} : cLen Γ [.str z] H Q = (z.length ≤ sizeLine ∧ Q (.int z.length) H) := rfl
theorem sl_0 {v : V} {r : L2.St} {k : V → Prop} : sl (some v :: r) 0 k = k v := rfl
theorem sl_s {o : Option V} {r : L2.St} {n : Nat} {k : V → Prop} : sl (o :: r) (n + 1) k = sl r n k := rfl
theorem asB_1 {b : Bool} {P : Bool → Prop} : asB (.bl b) P = P b := rfl
theorem asI_1 {b : Int} {P : Int → Prop} : asI (.int b) P = P b := rfl
theorem br_1 {A B : Prop} : br true A B = A := rfl
theorem br_2 {A B : Prop} : br false A B = B := rfl
theorem two_1 {v w : V} {P : V → V → Prop} : two [v, w] P = P v w := rfl
theorem three_1 {u v w : V} {P : V → V → V → Prop} : three [u, v, w] P = P u v w := rfl
theorem tru_1 {K : PySem.W.Frag} {b : Bool} {H : Hp} {P : Bool → Prop} : tru K (.bl b) H P = P b := rfl
theorem tru_2 {K : PySem.W.Frag} {H : Hp} {P : Bool → Prop} : tru K .non H P = P false := rfl
theorem tru_3 {K : PySem.W.Frag} {i : Int} {H : Hp} {P : Bool → Prop} : tru K (.int i) H P = P (i != 0) := rfl
theorem tru_4 {K : PySem.W.Frag} {y : Str} {H : Hp} {P : Bool → Prop} : tru K (.str y) H P = (y.length ≤ sizeLine ∧ P ((y.length : Int) != 0)) := rfl
theorem nb_1 : (!true) = false := rfl
theorem nb_2 : (!false) = true := rfl
theorem isN_1 : isN (.non) = true := rfl
theorem isN_2 {i : Int} : isN (.int i) = false := rfl
theorem isN_3 {i : Str} : isN (.str i) = false := rfl
theorem isN_4 {i : Bool} : isN (.bl i) = false := rfl
theorem isN_5 {i : Addr} : isN (.ref i) = false := rfl
/-! ### the start of a body -/
theorem st_start {t : TS} {D : Ends} {σ : L2.St} {H : Hp} {N : List Str} {vs : List V} (e : L2.start N vs = σ) (h : t D σ H) : t D (L2.start N vs) H := by rw [e]; exact h
end G
namespace G
open PySem PySem.Spec PyProof.Rows L2

/-! ### what is known of the heap: facts that stay, cells that are ours, what stood at the entry -/
/-- never changed once it is made (MC: the classes whose instances change) -/
def Imm (MC : Addr → Prop) : HO → Prop
  | .tup _ => True
  | .frz _ _ => True
  | .ins C _ _ => ¬ MC C
  | _ => False
/-- all that was tracked but the cells of S is as it was -/
def Fr (S : List Addr) (H H' : Hp) : Prop := ∀ a o, a ∉ S → H a = some o → H' a = some o
theorem Fr.refl {S : List Addr} {H : Hp} : Fr S H H := fun _ _ _ h => h
theorem Fr.trans {S : List Addr} {H H1 H2 : Hp} (x : Fr S H H1) (y : Fr S H1 H2) : Fr S H H2 := fun a o n h => y a o n (x a o n h)
theorem Fr.same {H H' : Hp} (x : Fr [] H H') : Same H H' := fun a o h => x a o (List.not_mem_nil) h
theorem Fr.of {S : List Addr} {H H' : Hp} (x : Same H H') : Fr S H H' := fun a o _ h => x a o h
theorem Same.mk {H : Hp} {p : Addr} {o : HO} (h : H p = none) : Same H (L2.upd H p o) := fun a u e => by
  rw [upd_ne (ne_of_none e h)]; exact e
theorem Fr.upd {S : List Addr} {H : Hp} {p : Addr} {o : HO} (h : p ∈ S) : Fr S H (L2.upd H p o) := fun a u n e => by
  rw [upd_ne (fun z => n (by rw [z]; exact h))]; exact e
theorem Fr.new {S : List Addr} {H : Hp} {p : Addr} {o : HO} (h : H p = none) : Fr S H (L2.upd H p o) := fun a u n e => by
  rw [upd_ne (ne_of_none e h)]; exact e
/-- P hangs on the cells of S and on what never changes -/
def Loc (MC : Addr → Prop) (S : List Addr) (P : Hp → Prop) : Prop := ∀ H H' : Hp, (∀ a o, H a = some o → a ∈ S ∨ Imm MC o → H' a = some o) → P H → P H'
/-- the written part, the classes whose instances change -/
structure Hv where
  K : PySem.W.Frag
  MC : Addr → Prop
/-- a fact that stays -/
structure PF (E : Hv) where
  P : Hp → Prop
  loc : Loc E.MC [] P
/-- a thing of the heap: its cells; ro: it is read only -/
structure RS (E : Hv) where
  fp : List Addr
  P : Hp → Prop
  loc : Loc E.MC fp P
  ro : Bool := false
section
variable {E : Hv}
def fps : List (RS E) → List Addr
  | [] => []
  | r :: rs => r.fp ++ fps rs
def ows : List (RS E) → List Addr
  | [] => []
  | r :: rs => (if r.ro then [] else r.fp) ++ ows rs
inductive Pick {α : Type} : List α → α → List α → α → Prop where
  | here {r r' : α} {R : List α} : Pick (r :: R) r (r' :: R) r'
  | next {r r' x : α} {R R' : List α} : Pick R r R' r' → Pick (x :: R) r (x :: R') r'
theorem Pick.mem {α : Type} {R R' : List α} {r r' : α} (h : Pick R r R' r') : r ∈ R := by
  induction h with
  | here => exact .head _
  | next _ ih => exact .tail _ ih
theorem Pick.mem' {α : Type} {R R' : List α} {r r' : α} (h : Pick R r R' r') : r' ∈ R' := by
  induction h with
  | here => exact .head _
  | next _ ih => exact .tail _ ih
theorem Pick.or {α : Type} {R R' : List α} {r r' : α} (h : Pick R r R' r') : ∀ x ∈ R', x = r' ∨ x ∈ R := by
  induction h with
  | here => intro x hx; cases hx with
    | head => exact .inl rfl
    | tail _ h => exact .inr (.tail _ h)
  | next _ ih => intro x hx; cases hx with
    | head => exact .inr (.head _)
    | tail _ h => rcases ih x h with h | h
                  · exact .inl h
                  · exact .inr (.tail _ h)
theorem mem_fps {R : List (RS E)} {r : RS E} (h : r ∈ R) : ∀ a ∈ r.fp, a ∈ fps R := by
  induction h with
  | head => intro a ha; exact List.mem_append_left _ ha
  | tail _ _ ih => intro a ha; exact List.mem_append_right _ (ih a ha)
theorem fps_mem {R : List (RS E)} : ∀ a ∈ fps R, ∃ y ∈ R, a ∈ y.fp := by
  induction R with
  | nil => intro a ha; cases ha
  | cons y ys ih =>
    intro a ha
    rcases List.mem_append.mp ha with h | h
    · exact ⟨y, .head _, h⟩
    · obtain ⟨u, hu, k⟩ := ih a h
      exact ⟨u, .tail _ hu, k⟩
theorem mem_ows {R : List (RS E)} {r : RS E} (h : r ∈ R) (hr : r.ro = false) : ∀ a ∈ r.fp, a ∈ ows R := by
  induction h with
  | head => intro a ha; exact List.mem_append_left _ (by rw [hr]; exact ha)
  | tail _ _ ih => intro a ha; exact List.mem_append_right _ (ih a ha)
theorem ows_fps {R : List (RS E)} : ∀ a ∈ ows R, a ∈ fps R := by
  induction R with
  | nil => intro a h; exact h
  | cons r rs ih =>
    intro a h
    rcases List.mem_append.mp h with h | h
    · cases hr : r.ro with
      | true => rw [hr] at h; cases h
      | false => rw [hr] at h; exact List.mem_append_left _ h
    · exact List.mem_append_right _ (ih a h)
/-- H0, S0: the heap at the entry, the cells that may be changed -/
structure SS (E : Hv) (H0 : Hp) (S0 : List Addr) (H : Hp) (F : List (PF E)) (R : List (RS E)) : Prop where
  f : ∀ x ∈ F, x.P H
  r : ∀ x ∈ R, x.P H
  nd : (fps R).Nodup
  tr : ∀ a ∈ fps R, ∃ o, H a = some o ∧ ¬ Imm E.MC o
  fr : Fr S0 H0 H
  ow : ∀ a ∈ ows R, a ∈ S0 ∨ H0 a = none
variable {H0 H H' : Hp} {S0 : List Addr} {F F' : List (PF E)} {R R' : List (RS E)} {r r' : RS E} {x : PF E} {p : Addr} {o : HO}
theorem SS.same (s : SS E H0 S0 H F R) (k : Same H H') : SS E H0 S0 H' F R where
  f := fun x hx => x.loc H H' (fun a o h _ => k a o h) (s.f x hx)
  r := fun x hx => x.loc H H' (fun a o h _ => k a o h) (s.r x hx)
  nd := s.nd
  tr := fun a ha => by obtain ⟨o, h, i⟩ := s.tr a ha; exact ⟨o, k _ _ h, i⟩
  fr := s.fr.trans (Fr.of k)
  ow := s.ow
theorem SS.add (s : SS E H0 S0 H F R) (x : PF E) (h : x.P H) : SS E H0 S0 H (x :: F) R where
  f := fun y hy => by cases hy with
    | head => exact h
    | tail _ hy => exact s.f y hy
  r := s.r
  nd := s.nd
  tr := s.tr
  fr := s.fr
  ow := s.ow
/-- fewer facts -/
theorem SS.sub (s : SS E H0 S0 H F R) (h : ∀ x ∈ F', x ∈ F) : SS E H0 S0 H F' R := ⟨fun x hx => s.f x (h x hx), s.r, s.nd, s.tr, s.fr, s.ow⟩
theorem SS.drop (s : SS E H0 S0 H F (r :: R)) : SS E H0 S0 H F R where
  f := s.f
  r := fun x hx => s.r x (.tail _ hx)
  nd := (List.nodup_append.mp s.nd).2.1
  tr := fun a ha => s.tr a (List.mem_append_right _ ha)
  fr := s.fr
  ow := fun a ha => s.ow a (List.mem_append_right _ ha)
/-- a new thing -/
theorem SS.newR (s : SS E H0 S0 H F R) (r : RS E) (k : Same H H') (h : r.P H') (nd : r.fp.Nodup) (new : ∀ a ∈ r.fp, H a = none) (tr : ∀ a ∈ r.fp, ∃ o, H' a = some o ∧ ¬ Imm E.MC o) : SS E H0 S0 H' F (r :: R) where
  f := (s.same k).f
  r := fun x hx => by cases hx with
    | head => exact h
    | tail _ hx => exact (s.same k).r x hx
  nd := by
    refine List.nodup_append.mpr ⟨nd, s.nd, fun a ha b hb e => ?_⟩
    subst e
    obtain ⟨o, ho, _⟩ := s.tr a hb
    rw [new a ha] at ho; cases ho
  tr := fun a ha => by
    rcases List.mem_append.mp ha with ha | ha
    · exact tr a ha
    · exact (s.same k).tr a ha
  fr := (s.same k).fr
  ow := fun a ha => by
    rcases List.mem_append.mp ha with ha | ha
    · have ha' : a ∈ r.fp := by
        cases hr : r.ro with
        | true => rw [hr] at ha; cases ha
        | false => rw [hr] at ha; exact ha
      by_cases hs : a ∈ S0
      · exact .inl hs
      · refine .inr ?_
        cases q : H0 a with
        | none => rfl
        | some o =>
          have z := s.fr a o hs q
          rw [new a ha'] at z; cases z
    · exact s.ow a ha
theorem fps_pick (h : Pick R r R' r') : ∀ a ∈ fps R', a ∈ r'.fp ∨ a ∈ fps R := by
  induction h with
  | here =>
    intro a ha
    rcases List.mem_append.mp ha with ha | ha
    · exact .inl ha
    · exact .inr (List.mem_append_right _ ha)
  | next _ ih =>
    intro a ha
    rcases List.mem_append.mp ha with ha | ha
    · exact .inr (List.mem_append_left _ ha)
    · rcases ih a ha with h | h
      · exact .inl h
      · exact .inr (List.mem_append_right _ h)
theorem ows_pick (h : Pick R r R' r') : ∀ a ∈ ows R', (a ∈ r'.fp ∧ r'.ro = false) ∨ a ∈ ows R := by
  induction h with
  | @here r r' R =>
    intro a ha
    rcases List.mem_append.mp ha with ha | ha
    · cases hr : r'.ro with
      | true => rw [hr] at ha; cases ha
      | false => rw [hr] at ha; exact .inl ⟨ha, rfl⟩
    · exact .inr (List.mem_append_right _ ha)
  | next _ ih =>
    intro a ha
    rcases List.mem_append.mp ha with ha | ha
    · exact .inr (List.mem_append_left _ ha)
    · rcases ih a ha with h | h
      · exact .inl h
      · exact .inr (List.mem_append_right _ h)
/-- the cells of one thing, and those of all others -/
theorem pick_split (h : Pick R r R' r') (nd : (fps R).Nodup) : (∀ x ∈ R', x = r' ∨ (x ∈ R ∧ ∀ a ∈ x.fp, a ∉ r.fp)) := by
  induction h with
  | @here r r' R =>
    intro x hx
    cases hx with
    | head => exact .inl rfl
    | tail _ hx =>
      refine .inr ⟨.tail _ hx, fun a ha hb => ?_⟩
      exact (List.nodup_append.mp nd).2.2 a hb a (mem_fps hx a ha) rfl
  | @next r r' y R R' p ih =>
    intro x hx
    have n := List.nodup_append.mp nd
    cases hx with
    | head => exact .inr ⟨.head _, fun a ha hb => n.2.2 a ha a (mem_fps p.mem a hb) rfl⟩
    | tail _ hx =>
      rcases ih n.2.1 x hx with h | ⟨h, k⟩
      · exact .inl h
      · exact .inr ⟨.tail _ h, k⟩
theorem pick_nodup (h : Pick R r R' r') (nd : (fps R).Nodup) (nr : r'.fp.Nodup) (hn : ∀ a ∈ r'.fp, a ∈ r.fp ∨ a ∉ fps R) : (fps R').Nodup := by
  induction h with
  | @here r r' R =>
    have n := List.nodup_append.mp nd
    refine List.nodup_append.mpr ⟨nr, n.2.1, fun a ha b hb e => ?_⟩
    subst e
    rcases hn a ha with h | h
    · exact n.2.2 a h a hb rfl
    · exact h (List.mem_append_right _ hb)
  | @next r r' y R R' p ih =>
    have n := List.nodup_append.mp nd
    refine List.nodup_append.mpr ⟨n.1, ih n.2.1 nr (fun a ha => ?_), fun a ha b hb e => ?_⟩
    · rcases hn a ha with h | h
      · exact .inl h
      · exact .inr fun z => h (List.mem_append_right _ z)
    · subst e
      rcases fps_pick p a hb with h | h
      · rcases hn a h with k | k
        · exact n.2.2 a ha a (mem_fps p.mem a k) rfl
        · exact k (List.mem_append_left _ ha)
      · exact n.2.2 a ha a h rfl
/-- one thing is changed -/
theorem SS.upd (s : SS E H0 S0 H F R) (p : Pick R r R' r') (ro : r.ro = false) (k : Fr r.fp H H') (h : r'.P H') (nd : r'.fp.Nodup) (own : ∀ a ∈ r'.fp, a ∈ r.fp ∨ H a = none) (tr : ∀ a ∈ r'.fp, ∃ o, H' a = some o ∧ ¬ Imm E.MC o) : SS E H0 S0 H' F R' := by
  have imm : ∀ a o, H a = some o → Imm E.MC o → a ∉ fps R := fun a o e i z => by
    obtain ⟨u, hu, hi⟩ := s.tr a z
    rw [e] at hu; cases hu; exact hi i
  have stay : ∀ a o, H a = some o → Imm E.MC o → H' a = some o := fun a o e i => k a o (fun z => imm a o e i (mem_fps p.mem a z)) e
  have apart := pick_split p s.nd
  refine ⟨fun x hx => x.loc H H' (fun a o e z => stay a o e (z.resolve_left (List.not_mem_nil))) (s.f x hx), fun x hx => ?_, ?_, ?_, ?_, ?_⟩
  · rcases apart x hx with rfl | ⟨hx, hn⟩
    · exact h
    · exact x.loc H H' (fun a o e z => z.elim (fun z => k a o (hn a z) e) (stay a o e)) (s.r x hx)
  · refine pick_nodup p s.nd nd fun a ha => ?_
    rcases own a ha with h | h
    · exact .inl h
    · refine .inr fun z => ?_
      obtain ⟨o, ho, _⟩ := s.tr a z
      rw [h] at ho; cases ho
  · intro a ha
    rcases fps_pick p a ha with h | h
    · exact tr a h
    · obtain ⟨o, ho, hi⟩ := s.tr a h
      by_cases z : a ∈ r'.fp
      · exact tr a z
      · by_cases z2 : a ∈ r.fp
        · -- a cell of the old thing that is not one of the new one: then it is not in fps R'
          exfalso
          have this := fps_mem a ha
          obtain ⟨y, hy, hay⟩ := this
          rcases apart y hy with rfl | ⟨_, hn⟩
          · exact z hay
          · exact hn a hay z2
        · exact ⟨o, k a o z2 ho, hi⟩
  · intro a o n e
    refine k a o (fun z => ?_) (s.fr a o n e)
    rcases s.ow a (mem_ows p.mem ro a z) with h | h
    · exact n h
    · rw [h] at e; cases e
  · intro a ha
    rcases ows_pick p a ha with ⟨h, _⟩ | h
    · rcases own a h with h | h
      · exact s.ow a (mem_ows p.mem ro a h)
      · by_cases hs : a ∈ S0
        · exact .inl hs
        · refine .inr ?_
          cases q : H0 a with
          | none => rfl
          | some o =>
            have z := s.fr a o hs q
            rw [h] at z; cases z
    · exact s.ow a h
/-- at the entry: facts and things as they stand -/
theorem SS.start (f : ∀ x ∈ F, x.P H) (r : ∀ x ∈ R, x.P H) (nd : (fps R).Nodup) (tr : ∀ a ∈ fps R, ∃ o, H a = some o ∧ ¬ Imm E.MC o) : SS E H (ows R) H F R := ⟨f, r, nd, tr, Fr.refl, fun a h => .inl h⟩
theorem SS.start0 : SS E H ([] : List Addr) H [] [] := SS.start (E := E) (F := []) (R := []) (by intro _ h; cases h) (by intro _ h; cases h) List.nodup_nil (by intro _ h; cases h)

/-! ### the usual facts and things -/
def tupF (a : Addr) (xs : List V) : PF E := ⟨fun H => SqT E.K H a xs, fun H H' k h => by
  rcases h with (h | ⟨o, h⟩) | h
  · exact .inl (.inl (k _ _ h (.inr trivial)))
  · exact .inl (.inr ⟨o, k _ _ h (.inr trivial)⟩)
  · exact .inr h⟩
/-- a list that is locked (the script) or written in the text -/
def lsF (a : Addr) (xs : List V) : PF E := ⟨fun H => (∃ o, H a = some (.frz o (.lst xs))) ∨ ∃ (o : Obj) (its : Array Value) (n : Nat), E.K.lookup a = some o ∧ o.cls = .type "list" ∧ o.dict = none ∧ o.data = .seq its n ∧ its.size ≤ sizeLine ∧ Vals xs its.toList,
  fun H H' k h => h.elim (fun ⟨o, h⟩ => .inl ⟨o, k _ _ h (.inr trivial)⟩) .inr⟩
theorem lsF.sq {a : Addr} {xs : List V} {H : Hp} (h : (lsF (E := E) a xs).P H) : SqL E.K H a xs := h.elim (fun ⟨o, h⟩ => .inl (.inr ⟨o, h⟩)) .inr
/-- an instance that never changes -/
def insF (C a : Addr) (fs : List (Str × V)) (n : ¬ E.MC C) : PF E := ⟨fun H => ∃ dx, H a = some (.ins C dx fs), fun H H' k ⟨dx, h⟩ => ⟨dx, k _ _ h (.inr n)⟩⟩
/-- one cell -/
def cellR (a : Addr) (o : HO) (ro : Bool := false) : RS E := ⟨[a], fun H => H a = some o, fun H H' k h => k _ _ h (.inl (.head _)), ro⟩
abbrev lstR (a : Addr) (xs : List V) (ro : Bool := false) : RS E := cellR a (.lst xs) ro
/-- a list to be read, whatever it is -/
def seqR (a : Addr) (xs : List V) : Bool → RS E
  | true => ⟨[a], fun H => H a = some (.lst xs), fun H H' k h => k _ _ h (.inl (.head _)), true⟩
  | false => ⟨[], (lsF a xs).P, (lsF a xs).loc, true⟩
theorem seqR.sq {a : Addr} {xs : List V} {H : Hp} : ∀ {b : Bool}, (seqR (E := E) a xs b).P H → SqL E.K H a xs
  | true, h => .inl (.inl h)
  | false, h => lsF.sq (E := E) h
theorem cell_nd {a : Addr} {o : HO} {b : Bool} : (cellR (E := E) a o b).fp.Nodup := List.nodup_cons.mpr ⟨List.not_mem_nil, List.nodup_nil⟩
/-- a cell is rewritten -/
theorem SS.put (s : SS E H0 S0 H F R) {u : HO} (q : Pick R (cellR p o) R' (cellR p u)) (n : ¬ Imm E.MC u) : SS E H0 S0 (L2.upd H p u) F R' :=
  s.upd q rfl (Fr.upd (.head _)) upd_same cell_nd (fun a h => .inl h) fun a h => by
    cases h with
    | head => exact ⟨u, upd_same, n⟩
    | tail _ h => cases h
/-- a new cell -/
theorem SS.newC (s : SS E H0 S0 H F R) (hp : H p = none) (n : ¬ Imm E.MC o) : SS E H0 S0 (L2.upd H p o) F (cellR p o :: R) :=
  s.newR (cellR p o) (Same.mk hp) upd_same cell_nd (fun a h => by cases h with
    | head => exact hp
    | tail _ h => cases h) fun a h => by
    cases h with
    | head => exact ⟨o, upd_same, n⟩
    | tail _ h => cases h
/-- one new cell since the entry -/
theorem SS.of1 (hp : H p = none) (s : Same H H') (h : H' p = some o) (n : ¬ Imm E.MC o) : SS E H ([] : List Addr) H' [] [cellR p o] where
  f := fun _ h => nomatch h
  r := fun x hx => by cases hx with
    | head => exact h
    | tail _ z => cases z
  nd := List.nodup_cons.mpr ⟨List.not_mem_nil, List.nodup_nil⟩
  tr := fun a ha => by cases ha with
    | head => exact ⟨_, h, n⟩
    | tail _ z => cases z
  fr := Fr.of s
  ow := fun a ha => by cases ha with
    | head => exact .inr hp
    | tail _ z => cases z
/-- one list that is read -/
theorem SS.ro1 (h : H p = some o) (n : ¬ Imm E.MC o) : SS E H ([] : List Addr) H [] [cellR p o true] where
  f := fun _ h => nomatch h
  r := fun x hx => by cases hx with
    | head => exact h
    | tail _ z => cases z
  nd := List.nodup_cons.mpr ⟨List.not_mem_nil, List.nodup_nil⟩
  tr := fun a ha => by cases ha with
    | head => exact ⟨_, h, n⟩
    | tail _ z => cases z
  fr := Fr.refl
  ow := fun a ha => nomatch ha
theorem SS.newT (s : SS E H0 S0 H F R) {xs : List V} (hp : H p = none) : SS E H0 S0 (L2.upd H p (.tup xs)) (tupF p xs :: F) R :=
  (s.same (Same.mk hp)).add (tupF p xs) (SqT.of upd_same)
theorem SS.cell (s : SS E H0 S0 H F R) {b : Bool} (m : cellR p o b ∈ R) : H p = some o := s.r _ m
theorem SS.seq (s : SS E H0 S0 H F R) {xs : List V} {b : Bool} (m : seqR p xs b ∈ R) : SqL E.K H p xs := seqR.sq (s.r _ m)
theorem SS.tup (s : SS E H0 S0 H F R) {xs : List V} (m : tupF p xs ∈ F) : SqT E.K H p xs := s.f _ m
end
end G
namespace G
open PySem PySem.Spec PyProof.Rows L2
/-! ### values and the heap: reading, writing, making -/
section
variable {E : Hv} {Γ : Gm} {H0 H : Hp} {S0 : List Addr} {F : List (PF E)} {R R' : List (RS E)} {l : Addr} {xs : List V} {i : Int} {v : V} {Q : VK} {b : Bool} {z : Str}
theorem ixr_l {X : Cx} (g : Good Γ X) : IxR X (rIxL Γ.K) := by rw [← g.K]; exact ix_list
theorem ixr_t {X : Cx} (g : Good Γ X) : IxR X (rIxT Γ.K) := by rw [← g.K]; exact ix_tup
theorem wx_l (m : SqL Γ.K H l xs) (h : atI xs i = some v) (q : Q v H) : WX Γ (.ref l) (.int i) H Q := ⟨_, fun _ g => ixr_l g, l, xs, i, v, rfl, rfl, m, h, q⟩
theorem wx_t (m : SqT Γ.K H l xs) (h : atI xs i = some v) (q : Q v H) : WX Γ (.ref l) (.int i) H Q := ⟨_, fun _ g => ixr_t g, l, xs, i, v, rfl, rfl, m, h, q⟩
theorem wx_s {c : Nat} (hz : z.length ≤ sizeLine) (h : atI z.cps.toList i = some c) (q : Q (.str ⟨#[c]⟩) H) : WX Γ (.str z) (.int i) H Q := ⟨_, fun _ g => ix_str, z, i, c, rfl, rfl, hz, h, q⟩
theorem wp_l {v : V} {j : Nat} {Q : Hp → Prop} (m : H l = some (.lst xs)) (h : ixN xs.length i = some j) (q : Q (upd H l (.lst (xs.set j v)))) : WP Γ (.ref l) (.int i) v H Q := ⟨_, fun _ _ => set_list, l, xs, i, j, rfl, rfl, m, h, q⟩
theorem wp_ss {v : V} {j : Nat} {Q : Hp → Prop} (s : SS E H0 S0 H F R) (p : Pick R (lstR l xs) R' (lstR l (xs.set j v))) (h : ixN xs.length i = some j) (q : ∀ H', SS E H0 S0 H' F R' → Q H') : WP Γ (.ref l) (.int i) v H Q :=
  ⟨_, fun _ _ => set_list, l, xs, i, j, rfl, rfl, s.cell p.mem, h, q _ (s.put p (fun z => z))⟩
theorem wc_len_l (m : SqL Γ.K H l xs) (q : Q (.int xs.length) H) : WC Γ (.builtin "len") [.ref l] H Q := ⟨_, fun _ g => clenS g, _, xs.length, rfl, .inl ⟨xs, m, rfl⟩, q⟩
theorem wc_len_t (m : SqT Γ.K H l xs) (q : Q (.int xs.length) H) : WC Γ (.builtin "len") [.ref l] H Q := ⟨_, fun _ g => clenS g, _, xs.length, rfl, .inr ⟨xs, m, rfl⟩, q⟩
theorem ty_l {K : PySem.W.Frag} (m : SqL K H l xs) : tyV K "list" (.ref l) H := .inl ⟨rfl, _, m⟩
theorem ty_s {K : PySem.W.Frag} : tyV K "str" (.str z) H := rfl
theorem ap_ss (s : SS E H0 S0 H F R) (p : Pick R (lstR l xs) R' (lstR l (xs ++ [v]))) (hl : xs.length < sizeLine) (k : ∀ H', SS E H0 S0 H' F R' → Q .non H') : rAppend (.ref l) [v] H Q :=
  ⟨l, xs, v, rfl, rfl, s.cell p.mem, hl, k _ (s.put p (fun z => z))⟩
theorem nt_ss {xs : List V} (s : SS E H0 S0 H F R) (k : ∀ p H', SS E H0 S0 H' (tupF p xs :: F) R → Q (.ref p) H') : ∀ p, H p = none → Q (.ref p) (upd H p (.tup xs)) := fun p hp => k p _ (s.newT hp)
theorem nl_ss {xs : List V} (s : SS E H0 S0 H F R) (k : ∀ p H', SS E H0 S0 H' F (lstR p xs :: R) → Q (.ref p) H') : ∀ p, H p = none → Q (.ref p) (upd H p (.lst xs)) := fun p hp => k p _ (s.newC hp (fun z => z))
/-- tuple(l), list(x) -/
theorem ctu {X : Cx} (g : Good Γ X) : CallR X (.type "tuple") (fun xs H Q => ∃ p ys, xs = [.ref p] ∧ ((SqL Γ.K H p ys ∧ ∀ l, H l = none → Q (.ref l) (upd H l (.tup ys))) ∨ (SqT Γ.K H p ys ∧ Q (.ref p) H))) := by rw [← g.K]; exact call_tuple_of
theorem cli {X : Cx} (g : Good Γ X) : CallR X (.type "list") (fun xs H Q => ∃ p ys, xs = [.ref p] ∧ (SqL Γ.K H p ys ∨ SqT Γ.K H p ys) ∧ ∀ l, H l = none → Q (.ref l) (upd H l (.lst ys))) := by rw [← g.K]; exact call_list_of
theorem wc_tup (m : SqL Γ.K H l xs) (q : ∀ p, H p = none → Q (.ref p) (upd H p (.tup xs))) : WC Γ (.type "tuple") [.ref l] H Q := ⟨_, fun _ g => ctu g, l, xs, rfl, .inl ⟨m, q⟩⟩
theorem wc_list (m : SqL Γ.K H l xs ∨ SqT Γ.K H l xs) (q : ∀ p, H p = none → Q (.ref p) (upd H p (.lst xs))) : WC Γ (.type "list") [.ref l] H Q := ⟨_, fun _ g => cli g, l, xs, rfl, m, q⟩
/-- xs + ys of lists -/
theorem wo_cat {b : Addr} {ys : List V} (m : H l = some (.lst xs)) (n : H b = some (.lst ys)) (hz : xs.length + ys.length ≤ sizeLine) (q : ∀ p, H p = none → Q (.ref p) (upd H p (.lst (xs ++ ys)))) : WO Γ (binaryOp .Add) (.ref l) (.ref b) H Q :=
  ⟨_, fun _ _ => op_cat, l, b, xs, ys, rfl, rfl, m, n, hz, q⟩
theorem slk {X : Cx} (g : Good Γ X) : SlR X (rSlL Γ.K) := by rw [← g.K]; exact sl_list
theorem wl_l {lo hi : Option Int} (m : SqL Γ.K H l xs) (q : ∀ p, H p = none → Q (.ref p) (upd H p (.lst (cutV xs lo hi)))) : WL Γ (.ref l) lo hi H Q := ⟨_, fun _ g => slk g, l, xs, rfl, m, q⟩
theorem slt {X : Cx} (g : Good Γ X) : SlR X (rSlT Γ.K) := by rw [← g.K]; exact sl_tup
theorem wl_t {lo hi : Option Int} (m : SqT Γ.K H l xs) (n : ¬ (HT.sIx xs.length 0 lo = 0 ∧ HT.sIx xs.length xs.length hi = xs.length)) (q : ∀ p, H p = none → Q (.ref p) (upd H p (.tup (cutV xs lo hi)))) : WL Γ (.ref l) lo hi H Q := ⟨_, fun _ g => slt g, l, xs, rfl, m, n, q⟩
theorem szl {n : Nat} (h : n ≤ 100000) : n ≤ sizeLine := Nat.le_trans h (by decide)
theorem Fr.sql {K : PySem.W.Frag} {H' : Hp} (x : Fr S0 H H') (h : SqL K H l xs) (n : l ∉ S0) : SqL K H' l xs := by
  rcases h with (h | ⟨o, h⟩) | h
  · exact .inl (.inl (x _ _ n h))
  · exact .inl (.inr ⟨o, x _ _ n h⟩)
  · exact .inr h
theorem Fr.sqt {K : PySem.W.Frag} {H' : Hp} (x : Fr S0 H H') (h : SqT K H l xs) (n : l ∉ S0) : SqT K H' l xs := by
  rcases h with (h | ⟨o, h⟩) | h
  · exact .inl (.inl (x _ _ n h))
  · exact .inl (.inr ⟨o, x _ _ n h⟩)
  · exact .inr h
theorem cut_to (xs : List V) (m : Nat) : cutV xs none (some (m : Int)) = xs.take m := by
  unfold cutV
  rw [HT.sIx_none, HT.sIx_nat, List.drop_zero, Nat.sub_zero, Nat.min_def]
  split
  · rfl
  · rw [List.take_length, List.take_of_length_le (by omega)]
theorem cut_from (xs : List V) (m : Nat) : cutV xs (some (m : Int)) none = xs.drop m := by
  unfold cutV
  rw [HT.sIx_none, HT.sIx_nat, Nat.min_def]
  split
  · rw [List.take_of_length_le (by rw [List.length_drop]; omega)]
  · rw [Nat.sub_self, List.take_zero, List.drop_of_length_le (by omega)]
theorem atG {α : Type} {xs : List α} {z : Int} {j : Nat} {v : α} (e : z = (j : Int)) (h : xs[j]? = some v) : atI xs z = some v := by
  rw [e]
  exact atI_nat h
theorem ixN_n {n j : Nat} (hj : j < n) : ixN n (j : Int) = some j := by
  unfold ixN
  rw [if_pos (Int.natCast_nonneg j), if_pos (by omega)]
  rfl
/-- the tail of a tuple -/
theorem wl_tl {x : V} (m : SqT Γ.K H l (x :: xs)) (q : ∀ p, H p = none → Q (.ref p) (upd H p (.tup xs))) : WL Γ (.ref l) (some 1) none H Q := wl_t m (fun h => by
    have := h.1
    rw [show (1 : Int) = ((1 : Nat) : Int) from rfl, HT.sIx_nat, List.length_cons] at this
    omega) fun p hp => by
  have := q p hp
  rw [show (some (1 : Int)) = some ((1 : Nat) : Int) from rfl, cut_from]
  exact this
/-! ### loops -/
def LP (J : It) (g : TG) (tb : TS) (D : Ends) (σ : L2.St) (H : Hp) : Prop := ∃ W : Nat → Nat → L2.St → Hp → Prop, (∃ m, W 0 m σ H) ∧ ∀ i m σ H, W i m σ H →
  (J.stop i H ∧ D.nx σ H) ∨ (J.go i H ∧ ∃ N : L2.St → Hp → Prop, (∀ σ' H', N σ' H' → ∃ m', m' < m ∧ W (i + 1) m' σ' H') ∧ ∀ x H', J.yld i H x H' → g x σ H' fun σ2 H2 => tb { D with nx := N, ct := N, bk := D.nx } σ2 H2)
theorem tFor_eq {wi : TI} {g : TG} {tb : TS} {D : Ends} {σ : L2.St} : tFor wi g tb D σ H = wi σ H fun J H1 => LP J g tb D σ H1 := rfl
def LQ (J : It) (g : TG) (tt : TT) (te : TE) (vs : List Nat) (σ : L2.St) (D : Addr) (Q : VK) (H1 : Hp) : Prop := ∃ W : Nat → Nat → Hp → Prop, (∃ m, W 0 m (upd H1 D (.lst []))) ∧ ∀ i m H, W i m H →
  (J.stop i H ∧ Q (.ref D) H) ∨ (J.go i H ∧ ∃ Nx : Hp → Prop, (∀ H', Nx H' → ∃ m', m' < m ∧ W (i + 1) m' H') ∧ ∀ x H', J.yld i H x H' → g x (wipe σ vs) H' fun σ2 H2 => wipe σ2 vs = wipe σ vs ∧ tt σ2 H2 fun b H3 =>
    if b = true then te σ2 H3 fun y H4 => ∃ acc, H4 D = some (.lst acc) ∧ acc.length < sizeLine ∧ Nx (upd H4 D (.lst (acc ++ [y]))) else Nx H3)
theorem tLc_eq {wi : TI} {g : TG} {tt : TT} {te : TE} {vs : List Nat} {σ : L2.St} : tLc wi g tt te vs σ H Q = wi σ H fun J H1 => ∀ D, H1 D = none → LQ J g tt te vs σ D Q H1 := rfl
section
variable {J : It} {n : Nat} {G : Hp → Prop} {Y : Nat → Hp → V → Hp → Prop}
/-- a for over what is walked -/
theorem lp_it (w : Walk J n G Y) {g : TG} {tb : TS} {D : Ends} {σ : L2.St} (Pv : Nat → L2.St → Hp → Prop) (h0 : Pv 0 σ H) (hG : ∀ i σ H, i ≤ n → Pv i σ H → G H)
    (hs : ∀ i x σ H H', i < n → Pv i σ H → Y i H x H' → g x σ H' fun σ2 H2 => tb ⟨Pv (i + 1), D.rt, D.nx, Pv (i + 1)⟩ σ2 H2) (hd : ∀ σ H, Pv n σ H → D.nx σ H) : LP J g tb D σ H := for_it w Pv h0 hG hs hd
theorem lp_range {lo : Int} {n : Nat} {g : TG} {tb : TS} {D : Ends} {σ : L2.St} (Pv : Nat → L2.St → Hp → Prop) (h0 : Pv 0 σ H)
    (hs : ∀ i σ H, i < n → Pv i σ H → g (.int (lo + i)) σ H fun σ2 H2 => tb ⟨Pv (i + 1), D.rt, D.nx, Pv (i + 1)⟩ σ2 H2) (hd : ∀ σ H, Pv n σ H → D.nx σ H) : LP (Itr lo n) g tb D σ H := for_range Pv h0 hs hd
theorem lp_list {a : Addr} {xs : List V} {g : TG} {tb : TS} {D : Ends} {σ : L2.St} {K : PySem.W.Frag} (Pv : Nat → L2.St → Hp → Prop) (h0 : Pv 0 σ H) (hl : ∀ i σ H, i ≤ xs.length → Pv i σ H → SqL K H a xs)
    (hs : ∀ i x σ H, xs[i]? = some x → Pv i σ H → g x σ H fun σ2 H2 => tb ⟨Pv (i + 1), D.rt, D.nx, Pv (i + 1)⟩ σ2 H2) (hd : ∀ σ H, Pv xs.length σ H → D.nx σ H) : LP (Itl K a) g tb D σ H := for_list Pv h0 hl hs hd
theorem lp_tup {a : Addr} {xs : List V} {g : TG} {tb : TS} {D : Ends} {σ : L2.St} {K : PySem.W.Frag} (Pv : Nat → L2.St → Hp → Prop) (h0 : Pv 0 σ H) (hl : ∀ i σ H, i ≤ xs.length → Pv i σ H → SqT K H a xs)
    (hs : ∀ i x σ H, xs[i]? = some x → Pv i σ H → g x σ H fun σ2 H2 => tb ⟨Pv (i + 1), D.rt, D.nx, Pv (i + 1)⟩ σ2 H2) (hd : ∀ σ H, Pv xs.length σ H → D.nx σ H) : LP (Itt K a) g tb D σ H := for_tup Pv h0 hl hs hd
/-- a comprehension over what is walked; acc is what has been made -/
theorem lq_it (w : Walk J n G Y) {g : TG} {tt : TT} {te : TE} {vs : List Nat} {σ : L2.St} {D : Addr} (Pv : Nat → List V → Hp → Prop) (h0 : Pv 0 [] (upd H D (.lst []))) (hG : ∀ i acc H, i ≤ n → Pv i acc H → G H)
    (hs : ∀ i x acc H H', i < n → acc.length ≤ i → Pv i acc H → Y i H x H' → g x (wipe σ vs) H' fun σ2 H2 => wipe σ2 vs = wipe σ vs ∧ tt σ2 H2 fun b H3 =>
      br b (te σ2 H3 fun y H4 => ∃ acc', H4 D = some (.lst acc') ∧ acc'.length < sizeLine ∧ ∃ acc2, acc2.length ≤ i + 1 ∧ Pv (i + 1) acc2 (upd H4 D (.lst (acc' ++ [y])))) (∃ acc2, acc2.length ≤ i + 1 ∧ Pv (i + 1) acc2 H3))
    (hd : ∀ acc H, acc.length ≤ n → Pv n acc H → Q (.ref D) H) : LQ J g tt te vs σ D Q H :=
  lc_it w (fun i H => ∃ acc, acc.length ≤ i ∧ Pv i acc H) ⟨[], Nat.zero_le _, h0⟩ (fun i H hi ⟨acc, _, h⟩ => hG i acc H hi h) (fun i x H H' hi ⟨acc, hl, h⟩ y => by
    have := hs i x acc H H' hi hl h y
    simp only [← br_eq] at this
    exact this) fun H ⟨acc, hl, h⟩ => hd acc H hl h
end
/-- the end of a turn: the new item is appended to the comprehension's own list, which is ours -/
theorem lq_add {D : Addr} {acc : List V} {i : Nat} {P : List V → Prop} (s : SS E H0 S0 H F (lstR D acc :: R)) (hl : acc.length ≤ i) (hi : i < sizeLine) (k : P acc) : ∃ acc', H D = some (.lst acc') ∧ acc'.length < sizeLine ∧ P acc' :=
  ⟨acc, s.cell (.head _), Nat.lt_of_le_of_lt hl hi, k⟩
theorem lq_len {acc : List V} {y : V} {i : Nat} (hl : acc.length ≤ i) : (acc ++ [y]).length ≤ i + 1 := by rw [List.length_append, List.length_singleton]; omega
theorem SS.app {D : Addr} {acc : List V} {y : V} (s : SS E H0 S0 H F (lstR D acc :: R)) : SS E H0 S0 (L2.upd H D (.lst (acc ++ [y]))) F (lstR D (acc ++ [y]) :: R) := s.put .here (fun z => z)
theorem lt_size {n : Nat} (h : n < 100000) : n < sizeLine := Nat.lt_of_lt_of_le h (by decide)
theorem nodup_len {α : Type} [DecidableEq α] : ∀ (l D : List α), l.Nodup → (∀ x ∈ l, x ∈ D) → l.length ≤ D.length
  | [], D, _, _ => Nat.zero_le _
  | x :: r, D, h, k => by
    have hx := k x (.head _)
    have n := List.nodup_cons.mp h
    have ih := nodup_len r (D.erase x) n.2 fun y hy => (List.mem_erase_of_ne (fun e => n.1 (by rw [← e]; exact hy))).mpr (k y (.tail _ hy))
    rw [List.length_erase_of_mem hx] at ih
    have : 0 < D.length := List.length_pos_of_mem hx
    rw [List.length_cons]
    omega
end
end G
namespace G
open PySem PySem.Spec PyProof.Rows L2
theorem passE {X : Cx} {E : XK} : Passes CX0 X E := fun _ _ _ _ _ _ _ h => h.elim
/-! ### own classes: what the text has written of them -/
structure Kls (Γ : Gm) (C : Addr) : Prop where
  cls : Cls Γ.K C
  first : PySem.W.selfFirst Γ.K C = true
  ca : PySem.W.findIn Γ.K (.ref C) "__class__" = some (some (.builtin "object.__class__"))
  cn : PySem.W.specialIn Γ.K (.builtin "object.__class__") "__get__" = some (some (.builtin "getset_descriptor.__get__"))
  ct : PySem.W.takesIn Γ.K (.builtin "object.__class__") = some true
  cm : PySem.W.mroIn Γ.K C (.type "object") = some true
/-- a method: what it promises -/
structure Mt (Γ : Gm) (CX : CXT) (k : Nat) (C : Addr) (m : Str) (sp : Sp) (dvs : List V) : Prop where
  ex : ∃ (f : Addr) (fd : FuncData) (ps : List Str) (ds : List Value), FnOk Γ.P Γ.w Γ.K Γ.mg Γ.base CX k f fd ps sp ∧ Cls Γ.K C ∧ Meth Γ.K C m f ∧ Binds Γ.K fd ps ds ∧ Vals dvs ds
/-- where a method stands -/
structure DfM (Γ : Gm) (C : Addr) (m qual : Str) (st : Stmt) (ps : List Str) : Prop where
  ex : ∃ (f : Addr) (fd : FuncData), L2.Fun Γ.K m qual st f fd ∧ Cls Γ.K C ∧ Meth Γ.K C m f ∧ Binds Γ.K fd ps []
/-- where a property's getter stands -/
structure DfP (Γ : Gm) (C : Addr) (m qual : Str) (st : Stmt) (ps : List Str) : Prop where
  ex : ∃ (p f : Addr) (fd : FuncData), L2.Fun Γ.K m qual st f fd ∧ Cls Γ.K C ∧ PropOf Γ.K C m p f ∧ Binds Γ.K fd ps []
/-- a property -/
structure Pr (Γ : Gm) (CX : CXT) (k : Nat) (C : Addr) (m : Str) (sp : Sp) : Prop where
  ex : ∃ (p f : Addr) (fd : FuncData) (ps : List Str), FnOk Γ.P Γ.w Γ.K Γ.mg Γ.base CX k f fd ps sp ∧ Cls Γ.K C ∧ PropOf Γ.K C m p f ∧ Binds Γ.K fd ps []
/-- a class that is made -/
structure Mkr (Γ : Gm) (CX : CXT) (k : Nat) (x : Str) (C : Addr) (sp : Sp) (dvs : List V) : Prop where
  ex : ∃ (f : Addr) (fd : FuncData) (ps : List Str) (ds : List Value), FnOk Γ.P Γ.w Γ.K Γ.mg Γ.base CX k f fd ps sp ∧ Mk Γ.K C f ∧ Γ.mg x = some (.ref C) ∧ Binds Γ.K fd ps ds ∧ Vals dvs ds
section
variable {Γ : Gm} {C : Addr} {m qual : Str} {st : Stmt} {ps N : List Str} {k : Nat} {sp : Sp}
/-- the rule for a method, by its body -/
theorem DfM.mt (d : DfM Γ C m qual st ps) (S : FnScope N ps (defScope st)) (len : ∀ vs H Q E, sp vs H Q E → vs.length = ps.length)
    (hbody : ∀ (f : Addr) (cdv : Value) (A : Around) (outer : List Env) (s : Shared) (H : Hp) (vs : List V) (Q : VK) (E : XK), Good (Γ.at k) (cxOf CX0 Γ.P Γ.w Γ.K Γ.mg Γ.base N qual (defScope st) f cdv A outer s H E).nox → sp vs H Q E →
      ∃ t, PSs (cxOf CX0 Γ.P Γ.w Γ.K Γ.mg Γ.base N qual (defScope st) f cdv A outer s H E).nox (defBody st) t ∧ t { nx := fun _ H' => Q .non H', rt := Q } (L2.start N vs) H) : Mt Γ CX0 (k + 1) C m sp [] := by
  obtain ⟨f, fd, F, c, h, b⟩ := d.ex
  exact ⟨f, fd, ps, [], F.ok S len fun cdv A outer s H vs Q E hr h => hbody f cdv A outer s H vs Q E (Good.of hr).nox h, c, h, b, .nil⟩
theorem DfP.pr (d : DfP Γ C m qual st ps) (S : FnScope N ps (defScope st)) (len : ∀ vs H Q E, sp vs H Q E → vs.length = ps.length)
    (hbody : ∀ (f : Addr) (cdv : Value) (A : Around) (outer : List Env) (s : Shared) (H : Hp) (vs : List V) (Q : VK) (E : XK), Good (Γ.at k) (cxOf CX0 Γ.P Γ.w Γ.K Γ.mg Γ.base N qual (defScope st) f cdv A outer s H E).nox → sp vs H Q E →
      ∃ t, PSs (cxOf CX0 Γ.P Γ.w Γ.K Γ.mg Γ.base N qual (defScope st) f cdv A outer s H E).nox (defBody st) t ∧ t { nx := fun _ H' => Q .non H', rt := Q } (L2.start N vs) H) : Pr Γ CX0 (k + 1) C m sp := by
  obtain ⟨p, f, fd, F, c, h, b⟩ := d.ex
  exact ⟨p, f, fd, ps, F.ok S len fun cdv A outer s H vs Q E hr h => hbody f cdv A outer s H vs Q E (Good.of hr).nox h, c, h, b⟩
theorem Mt.imp {CX : CXT} {j : Nat} {sp' : Sp} {dvs : List V} (c : Mt Γ CX k C m sp dvs) (h : ∀ vs H Q E, sp' vs H Q E → sp vs H Q E) (hk : k ≤ j) : Mt Γ CX j C m sp' dvs := by
  obtain ⟨f, fd, ps, ds, F, r⟩ := c.ex
  exact ⟨f, fd, ps, ds, (F.imp h).mono hk, r⟩
theorem Mt.mkr {x : Str} {CX : CXT} (c : Mt Γ CX k C "__init__" sp []) (h1 : PySem.W.makesIn Γ.K C = true) (h2 : PySem.W.keepIn Γ.K (.ref C) = true) (h3 : Γ.mg x = some (.ref C)) : Mkr Γ CX k x C sp [] := by
  obtain ⟨f, fd, ps, ds, F, c, h, b, v⟩ := c.ex
  exact ⟨f, fd, ps, ds, F, ⟨h1, h.at_, h.fn, h2⟩, h3, b, v⟩
end
/-! ### defaults -/
/-- a def with defaults for its last parameters, which may be passed by name -/
structure DfD (Γ : Gm) (x : Str) (st : Stmt) (ps : List Str) (dvs : List V) : Prop where
  ex : ∃ (f : Addr) (fd : FuncData), FunD Γ.K x x (defArgs st) (defBody st) (defScope st) dvs [] f fd ∧ Γ.mg x = some (.ref f) ∧ Binds Γ.K fd ps [] ∧ (∃ ds, Vals dvs ds ∧ Binds Γ.K fd ps ds) ∧
    KBn Γ.K fd ps (ps.length - dvs.length) (ps.drop (ps.length - dvs.length)) (fun us ws => us ++ ws) (fun vs zs => vs ++ zs)
/-- a def called with keywords: n values, then those named ks -/
structure Clk (Γ : Gm) (CX : CXT) (k : Nat) (x : Str) (sp : Sp) (n : Nat) (ks : List Str) : Prop where
  ex : ∃ (f : Addr) (fd : FuncData) (ps : List Str), FnOk Γ.P Γ.w Γ.K Γ.mg Γ.base CX k f fd ps sp ∧ Γ.mg x = some (.ref f) ∧ PySem.W.keepIn Γ.K (.ref f) = true ∧ KBn Γ.K fd ps n ks (fun us ws => us ++ ws) (fun vs zs => vs ++ zs)
structure ClD (Γ : Gm) (CX : CXT) (k : Nat) (x : Str) (sp : Sp) (ps : List Str) (dvs : List V) : Prop where
  all : Cl Γ CX k x sp []
  few : Cl Γ CX k x sp dvs
  kw : Clk Γ CX k x sp (ps.length - dvs.length) (ps.drop (ps.length - dvs.length))
theorem DfD.cl {Γ : Gm} {x : Str} {st : Stmt} {ps N : List Str} {dvs : List V} {k : Nat} {sp : Sp} (d : DfD Γ x st ps dvs) (S : FnScope N ps (defScope st)) (len : ∀ vs H Q E, sp vs H Q E → vs.length = ps.length)
    (hbody : ∀ (f : Addr) (cdv : Value) (A : Around) (outer : List Env) (s : Shared) (H : Hp) (vs : List V) (Q : VK) (E : XK), Good (Γ.at k) (cxOf CX0 Γ.P Γ.w Γ.K Γ.mg Γ.base N x (defScope st) f cdv A outer s H E) → sp vs H Q E →
      ∃ t, PSs (cxOf CX0 Γ.P Γ.w Γ.K Γ.mg Γ.base N x (defScope st) f cdv A outer s H E) (defBody st) t ∧ t { nx := fun _ H' => Q .non H', rt := Q } (L2.start N vs) H) : ClD Γ CX0 (k + 1) x sp ps dvs := by
  obtain ⟨f, fd, F, m, b, ⟨ds, v, b2⟩, kb⟩ := d.ex
  have ok := F.ok (P := Γ.P) (w := Γ.w) (mg := Γ.mg) (base := Γ.base) (CX := CX0) (k := k) S len fun cdv A outer s H vs Q E hr h => hbody f cdv A outer s H vs Q E (Good.of hr) h
  exact ⟨⟨f, fd, ps, [], ok, m, F.kp, b, .nil⟩, ⟨f, fd, ps, ds, ok, m, F.kp, b2, v⟩, ⟨f, fd, ps, ok, m, F.kp, kb⟩⟩
theorem pclk {Γ : Gm} {X : Cx} {CX : CXT} {k l n : Nat} {x : Str} {sp : Sp} {ks : List Str} {E : XK} {p pos : Pos} {e : Expr} {es : List Expr} {kws : List Keyword} {t tk : TA} (c : Clk Γ CX k x sp n ks) (g : Good (Γ.at l) X) (hk : k ≤ l) (hg : gvB X.env.scope x = true) (hx : Passes CX X E)
    (ha : PA X (e :: es) t) (hkw : PK X kws tk) (hall : (backToKw pos (keywordEach kws X.env)).all (·.1.isSome) = true := by rfl) (hks : (backToKw pos (keywordEach kws X.env)).filterMap (·.1) = ks := by rfl)
    (he : starEach (e :: es) X.env = (false, eval e X.env) :: starEach es X.env := by rfl)
    (hpl : ((backTo pos (starEach (e :: es) X.env)).any (·.1) || (backToKw pos (keywordEach kws X.env)).any (·.1.isNone)) = false := by rfl) :
    PE X (.Call (.Name x p) (e :: es) kws pos) (tCallN n ks.length sp (fun vs zs => vs ++ zs) E t tk) := by
  obtain ⟨P, w, K, mg, base, lv⟩ := Γ
  obtain ⟨h1, h2, h3, h4, h5, _, hr⟩ := g
  simp only at h1 h2 h3 h4 h5 hr
  subst h1 h2 h3 h4 h5
  obtain ⟨f, fd, ps, F, m, kp, kb⟩ := c.ex
  exact pe_callN F (hr.mono hk) (gv_of hg).1 m kp kb hx ha hkw hall hks (gv_of hg).2.1 he hpl
/-! ### attributes by values -/
def AtR (X : Cx) (f : Str) (r : V → Hp → VK → Prop) : Prop := ∀ (pins : List (Addr × Obj)) (s : Shared) (σ : L2.St) (H : Hp) (x : V) (v : Value) (b : Bool) (Q : VK), Inv X pins σ H s → RelV x v → r x H Q →
  wpAny (model X.prog X.w) X.A (getAttr v f b) (EP X pins σ Q) X.xe s
def WA (Γ : Gm) (f : Str) : V → Hp → VK → Prop := fun x H Q => ∃ r, (∀ X, Good Γ X → AtR X f r) ∧ r x H Q
section
variable {Γ : Gm} {X : Cx} {f : Str} {e o : Expr} {es : List Expr} {te ta : TE} {t : TA} {pos p apos : Pos} {r : V → Hp → VK → Prop} {a b C dx dy D : Addr} {fs gs : List (Str × V)} {H : Hp} {Q : VK} {v : V} {n l : Nat} {sp : Sp} {E : XK} {CX : CXT} {dvs : List V} {x m : Str}
theorem WA.ok (g : Good Γ X) : AtR X f (WA Γ f) := fun pins s σ H x v b Q I rx ⟨_, h, q⟩ => h X g pins s σ H x v b Q I rx q
theorem pe_at (h : AtR X f r) (he : PE X e te) (hb : attributeBase e f X.env (eval e X.env) = eval e X.env := by rfl) : PE X (.Attribute e f pos) (tUn r te) := by
  refine ⟨fun pins s σ H Q I q => ?_⟩
  exact attr_of hb (thn (he.run pins s σ H _ I q) fun u s1 ⟨x, H1, I1, rx, q⟩ => h pins s1 σ H1 x u _ Q I1 rx q)
theorem wa_fld (c : Cls Γ.K C) (k : NoAttr Γ.K C f) (ea : H a = some (.ins C dx fs)) (l : fs.lookup f = some v) (q : Q v H) : WA Γ f (.ref a) H Q :=
  ⟨fun x H Q => ∃ a C dx fs v, x = .ref a ∧ H a = some (.ins C dx fs) ∧ Cls Γ.K C ∧ NoAttr Γ.K C f ∧ fs.lookup f = some v ∧ Q v H, fun X g pins s σ H x u b Q I rx ⟨a, C, dx, fs, v, ex, ea, c, k, l, q⟩ => by
    subst ex
    obtain rfl : u = Value.ref a := rx
    rw [← g.K] at c k
    exact getattr_ok I ea c k l fun u' s2 I2 ru => ⟨v, H, I2, ru, q⟩, a, C, dx, fs, v, rfl, ea, c, k, l, q⟩
theorem wa_prop (p : Pr Γ CX0 n C f sp) (hn : n + 1 ≤ l) (ea : H a = some (.ins C dx fs)) (q : sp [.ref a] H Q E) : WA (Γ.at l) f (.ref a) H Q :=
  ⟨fun x H Q => ∃ a dx fs, x = .ref a ∧ H a = some (.ins C dx fs) ∧ sp [.ref a] H Q E, fun X g pins s σ H x u b Q I rx ⟨a, dx, fs, ex, ea, q⟩ => by
    subst ex
    obtain rfl : u = Value.ref a := rx
    obtain ⟨P, w, K, mg, base, lv⟩ := Γ
    obtain ⟨h1, h2, h3, h4, h5, _, hr⟩ := g
    simp only at h1 h2 h3 h4 h5 hr
    subst h1 h2 h3 h4 h5
    obtain ⟨p, g, fd, ps, F, c, hp, hb⟩ := p.ex
    exact getprop_ok I ea c hp F (hr.mono hn) hb .nil passE q, a, dx, fs, rfl, ea, q⟩
/-! ### methods, by what stands at the object -/
def tMw (Γ : Gm) (m : Str) (ta : TE) (t : TA) : TE := fun σ H Q => ta σ H fun x H1 => ∃ (n : Nat) (C a dx : Addr) (fs : List (Str × V)) (sp : Sp) (dvs : List V) (E : XK), Mt Γ CX0 n C m sp dvs ∧ n ≤ Γ.lv ∧ x = .ref a ∧ H1 a = some (.ins C dx fs) ∧ fs.lookup m = none ∧
  t σ H1 fun vs H2 => sp (x :: (vs ++ dvs)) H2 Q E
theorem pe_mw {pl : Sem Bool} (g : Good Γ X) (he : PE X o ta) (ha : PA X (e :: es) t)
    (hst : starEach (e :: es) X.env = (false, eval e X.env) :: starEach es X.env := by rfl) (hpl : (backTo pos (starEach es X.env)).any (·.1) = false := by rfl)
    (ht : eval (.Call (.Attribute o m apos) (e :: es) [] pos) X.env = (do
      let ov ← eval o X.env
      standAt apos.atName
      let (f, first) ← holding [ov] (getMethod ov m pl)
      callWith pos f first (backTo pos (starEach (e :: es) X.env)) (backToKw pos (keywordEach [] X.env))) := by rfl) :
    PE X (.Call (.Attribute o m apos) (e :: es) [] pos) (tMw Γ m ta t) := by
  refine ⟨fun pins s σ H Q I h => ?_⟩
  refine PySem.W.methodCall_KW (pl := pl) (thn (he.run pins s σ H _ I h) fun u s1 ⟨x, H1, I1, rx, n, C, a, dx, fs, sp, dvs, E, M, hn, ex, ea, l, q⟩ => ?_) ht
  subst ex
  obtain rfl : u = Value.ref a := rx
  obtain ⟨P, w, K, mg, base, lv⟩ := Γ
  obtain ⟨h1, h2, h3, h4, h5, _, hr⟩ := g
  simp only at h1 h2 h3 h4 h5 hr
  subst h1 h2 h3 h4 h5
  obtain ⟨f, fd, ps, ds, F, c, hm, hb, hd⟩ := M.ex
  refine getmeth_ok I1 ea c hm l ?_
  refine PySem.W.callWith_K (first := [.ref a]) (h₀ := X.base) I.ok.mod.kin hm.kp (thn (ha.run pos pins s1 σ H1 _ I1 q) fun us s2 ⟨vs, H2, I2, r, q2⟩ => ⟨I2.kIn, ?_⟩) hst hpl
  exact run_fn (us := .ref a :: us) (vs := .ref a :: vs) F (hr.mono hn) hb hd passE I2 (.cons rfl r) q2
theorem pe_mw0 {pl : Sem Bool} (g : Good Γ X) (he : PE X o ta)
    (ht : eval (.Call (.Attribute o m apos) [] [] pos) X.env = (do
      let ov ← eval o X.env
      standAt apos.atName
      let (f, first) ← holding [ov] (getMethod ov m pl)
      callWith pos f first (backTo pos (starEach [] X.env)) (backToKw pos (keywordEach [] X.env))) := by rfl) :
    PE X (.Call (.Attribute o m apos) [] [] pos) (tMw Γ m ta tNil) := by
  refine ⟨fun pins s σ H Q I h => ?_⟩
  refine PySem.W.methodCall_KW (pl := pl) (thn (he.run pins s σ H _ I h) fun u s1 ⟨x, H1, I1, rx, n, C, a, dx, fs, sp, dvs, E, M, hn, ex, ea, l, q⟩ => ?_) ht
  subst ex
  obtain rfl : u = Value.ref a := rx
  obtain ⟨P, w, K, mg, base, lv⟩ := Γ
  obtain ⟨h1, h2, h3, h4, h5, _, hr⟩ := g
  simp only at h1 h2 h3 h4 h5 hr
  subst h1 h2 h3 h4 h5
  obtain ⟨f, fd, ps, ds, F, c, hm, hb, hd⟩ := M.ex
  refine getmeth_ok I1 ea c hm l ?_
  exact PySem.W.callWith_K0 (first := [.ref a]) I1.kIn hm.kp (run_fn (us := [.ref a]) (vs := [.ref a]) F (hr.mono hn) hb hd passE I1 (.cons rfl .nil) q)
/-- C(..) -/
theorem pmk (M : Mkr Γ CX n x C sp dvs) (g : Good (Γ.at l) X) (hn : n + 1 ≤ l) (hg : gvB X.env.scope x = true) (hx : Passes CX X E) (ha : PA X (e :: es) t)
    (he : starEach (e :: es) X.env = (false, eval e X.env) :: starEach es X.env := by rfl) (hpl : (backTo pos (starEach es X.env)).any (·.1) = false := by rfl) :
    PE X (.Call (.Name x p) (e :: es) [] pos) (tMake C sp dvs E t) := by
  obtain ⟨P, w, K, mg, base, lv⟩ := Γ
  obtain ⟨h1, h2, h3, h4, h5, _, hr⟩ := g
  simp only at h1 h2 h3 h4 h5 hr
  subst h1 h2 h3 h4 h5
  obtain ⟨f, fd, ps, ds, F, mk, hm, hb, hd⟩ := M.ex
  exact pe_make mk F (hr.mono hn) (gv_of hg).1 hm hb hd hx ha (gv_of hg).2.1 he hpl
/-! ### own operators -/
theorem own_at {pins : List (Addr × Obj)} {σ : L2.St} {s : Shared} (I : Inv X pins σ H s) (ea : H a = some (.ins C dx fs)) : ∃ od, PySem.W.InstAt s.heap a (PySem.W.instObj C dx) C (some od) := by
  obtain ⟨mA, O, _, _, _, _⟩ := ins_get I.hok ea
  obtain ⟨od, J, _⟩ := O.look
  exact ⟨od, J⟩
/-- x op y of two instances of one class -/
theorem wo_own {op : Operator} (k : Kls Γ C) (M : Mt Γ CX0 n C (PySem.dunder op.info.2) sp []) (hn : n ≤ l) (ha : H a = some (.ins C dx fs)) (hb : H b = some (.ins C dy gs)) (q : sp [.ref a, .ref b] H Q E) : WO (Γ.at l) (binaryOp op) (.ref a) (.ref b) H Q :=
  ⟨fun x y H Q => ∃ a dx fs b dy gs, x = .ref a ∧ y = .ref b ∧ H a = some (.ins C dx fs) ∧ H b = some (.ins C dy gs) ∧ sp [.ref a, .ref b] H Q E, fun X g pins s σ H x y v u Q I rx ry ⟨a, dx, fs, b, dy, gs, ex, ey, ha, hb, q⟩ => by
    subst ex; subst ey
    obtain rfl : v = Value.ref a := rx
    obtain rfl : u = Value.ref b := ry
    obtain ⟨P, w, K, mg, base, lv⟩ := Γ
    obtain ⟨h1, h2, h3, h4, h5, _, hr⟩ := g
    simp only at h1 h2 h3 h4 h5 hr
    subst h1 h2 h3 h4 h5
    obtain ⟨f, fd, ps, ds, F, c, hm, hbi, hd⟩ := M.ex
    obtain ⟨od, J⟩ := own_at I ha
    obtain ⟨od', J'⟩ := own_at I hb
    obtain ⟨m, hF⟩ := I.fr
    refine PySem.W.binop_K hF I.ok.mod.kin J J'.type k.first hm.at_ hm.fn ?_
    refine wpAny_mono (run_fn (us := [.ref a, .ref b]) (vs := [.ref a, .ref b]) F (hr.mono hn) hbi hd passE I (.cons rfl (.cons rfl .nil)) q) (fun w s' z => ?_) fun _ _ x => x
    obtain ⟨z', H', I', rz, qz⟩ := z
    exact SlX.cmpback rz ⟨z', H', I', rz, qz⟩, a, dx, fs, b, dy, gs, rfl, rfl, ha, hb, q⟩
/-- x op y, y a thing of a built-in type -/
theorem wo_ownT {op : Operator} {T : String} {fo ro rc : Option Value} {y : V} (hty : ∀ u, RelV y u → typeOf u = pure (.type T)) (k : Kls Γ C) (M : Mt Γ CX0 n C (PySem.dunder op.info.2) sp []) (hn : n ≤ l) (hr : PySem.W.findIn Γ.K (.ref C) (dunderR op.info.2) = some rc) (hp : rc = none ∨ ∃ g : Addr, rc = some (.ref g))
    (h1 : PySem.W.findIn Γ.K (.type T) (PySem.dunder op.info.2) = some fo) (h2 : PySem.W.findIn Γ.K (.type T) (dunderR op.info.2) = some ro) (hsub : PySem.W.subIn Γ.K (.type T) (.ref C) = some false)
    (ha : H a = some (.ins C dx fs)) (q : sp [.ref a, y] H Q E) : WO (Γ.at l) (binaryOp op) (.ref a) y H Q :=
  ⟨fun x y' H Q => ∃ a dx fs, x = .ref a ∧ y' = y ∧ H a = some (.ins C dx fs) ∧ sp [.ref a, y] H Q E, fun X g pins s σ H x y' v u Q I rx ry ⟨a, dx, fs, ex, ey, ha, q⟩ => by
    subst ex; subst ey
    obtain rfl : v = Value.ref a := rx
    obtain ⟨P, w, K, mg, base, lv⟩ := Γ
    obtain ⟨e1, e2, e3, e4, e5, _, hro⟩ := g
    simp only at e1 e2 e3 e4 e5 hro
    subst e1 e2 e3 e4 e5
    obtain ⟨f, fd, ps, ds, F, c, hm, hbi, hd⟩ := M.ex
    obtain ⟨od, J⟩ := own_at I ha
    obtain ⟨m, hF⟩ := I.fr
    refine PySem.W.ksp_binT hF I.ok.mod.kin J (hty u ry) k.first hm.at_ hm.fn hr hp h1 h2 hsub ?_
    refine wpAny_mono (run_fn (us := [.ref a, u]) (vs := [.ref a, y']) F (hro.mono hn) hbi hd passE I (.cons rfl (.cons ry .nil)) q) (fun w s' z => ?_) fun _ _ x => x
    obtain ⟨z', H', I', rz, qz⟩ := z
    exact SlX.cmpback rz ⟨z', H', I', rz, qz⟩, a, dx, fs, rfl, rfl, ha, q⟩
theorem wu_negO (M : Mt Γ CX0 n C "__neg__" sp []) (hn : n ≤ l) (ha : H a = some (.ins C dx fs)) (q : sp [.ref a] H Q E) : WU (Γ.at l) (unaryOp .USub) (.ref a) H Q :=
  ⟨fun x H Q => ∃ a dx fs, x = .ref a ∧ H a = some (.ins C dx fs) ∧ sp [.ref a] H Q E, fun X g pins s σ H x v Q I rx ⟨a, dx, fs, ex, ha, q⟩ => by
    subst ex
    obtain rfl : v = Value.ref a := rx
    obtain ⟨P, w, K, mg, base, lv⟩ := Γ
    obtain ⟨h1, h2, h3, h4, h5, _, hr⟩ := g
    simp only at h1 h2 h3 h4 h5 hr
    subst h1 h2 h3 h4 h5
    obtain ⟨f, fd, ps, ds, F, c, hm, hbi, hd⟩ := M.ex
    obtain ⟨od, J⟩ := own_at I ha
    obtain ⟨m, hF⟩ := I.fr
    exact PySem.W.ksp_neg hF I.ok.mod.kin J hm.at_ hm.fn (run_fn (us := [.ref a]) (vs := [.ref a]) F (hr.mono hn) hbi hd passE I (.cons rfl .nil) q), a, dx, fs, rfl, ha, q⟩
theorem wu_invO (M : Mt Γ CX0 n C "__invert__" sp []) (hn : n ≤ l) (ha : H a = some (.ins C dx fs)) (q : sp [.ref a] H Q E) : WU (Γ.at l) (unaryOp .Invert) (.ref a) H Q :=
  ⟨fun x H Q => ∃ a dx fs, x = .ref a ∧ H a = some (.ins C dx fs) ∧ sp [.ref a] H Q E, fun X g pins s σ H x v Q I rx ⟨a, dx, fs, ex, ha, q⟩ => by
    subst ex
    obtain rfl : v = Value.ref a := rx
    obtain ⟨P, w, K, mg, base, lv⟩ := Γ
    obtain ⟨h1, h2, h3, h4, h5, _, hr⟩ := g
    simp only at h1 h2 h3 h4 h5 hr
    subst h1 h2 h3 h4 h5
    obtain ⟨f, fd, ps, ds, F, c, hm, hbi, hd⟩ := M.ex
    obtain ⟨od, J⟩ := own_at I ha
    obtain ⟨m, hF⟩ := I.fr
    exact PySem.W.ksp_inv hF I.ok.mod.kin J hm.at_ hm.fn (run_fn (us := [.ref a]) (vs := [.ref a]) F (hr.mono hn) hbi hd passE I (.cons rfl .nil) q), a, dx, fs, rfl, ha, q⟩
/-- x == y, x an instance whose class has __eq__ -/
theorem wo_eqO {y : V} {t : Value} (M : Mt Γ CX0 n C "__eq__" sp []) (hn : n ≤ l) (ty : TyX Γ.K H y t) (nf : PySem.W.notFirst Γ.K C t = true) (ha : H a = some (.ins C dx fs)) (q : sp [.ref a, y] H Q E) : WO (Γ.at l) (compareOp .Eq) (.ref a) y H Q :=
  ⟨fun x y H Q => ∃ a dx fs t, x = .ref a ∧ H a = some (.ins C dx fs) ∧ TyX Γ.K H y t ∧ PySem.W.notFirst Γ.K C t = true ∧ sp [.ref a, y] H Q E, fun X g pins s σ H x y v u Q I rx ry ⟨a, dx, fs, t, ex, ha, ty, nf, q⟩ => by
    subst ex
    obtain rfl : v = Value.ref a := rx
    obtain ⟨P, w, K, mg, base, lv⟩ := Γ
    obtain ⟨h1, h2, h3, h4, h5, _, hr⟩ := g
    simp only at h1 h2 h3 h4 h5 hr
    subst h1 h2 h3 h4 h5
    obtain ⟨f, fd, ps, ds, F, c, hm, hbi, hd⟩ := M.ex
    obtain ⟨od, J⟩ := own_at I ha
    obtain ⟨m, hF⟩ := I.fr
    obtain ⟨P, kx, hP, _⟩ := kit_of I ry ty
    refine PySem.W.cmp_K (op := .Eq) (tb := t) hr.units0 hF I.ok.mod.kin J (kx.ty _ _ I.kIn hP) nf hm.at_ hm.fn ?_
    refine wpAny_mono (run_fn (us := [.ref a, u]) (vs := [.ref a, y]) F (hr.mono hn) hbi hd passE I (.cons rfl (.cons ry .nil)) q) (fun w s' z => ?_) fun _ _ x => x
    obtain ⟨z', H', I', rz, qz⟩ := z
    exact SlX.cmpback rz ⟨z', H', I', rz, qz⟩, a, dx, fs, t, rfl, ha, ty, nf, q⟩
/-- y in x, y not in x -/
theorem wo_inO {y : V} (M : Mt Γ CX0 n C "__contains__" sp []) (hn : n ≤ l) (ha : H a = some (.ins C dx fs)) (q : sp [.ref a, y] H (fun r H' => ∃ b, r = .bl b ∧ Q (.bl b) H') E) : WO (Γ.at l) (compareOp .In) y (.ref a) H Q :=
  ⟨fun y x H Q => ∃ a dx fs, x = .ref a ∧ H a = some (.ins C dx fs) ∧ sp [.ref a, y] H (fun r H' => ∃ b, r = .bl b ∧ Q (.bl b) H') E, fun X g pins s σ H y x u v Q I ry rx ⟨a, dx, fs, ex, ha, q⟩ => by
    subst ex
    obtain rfl : v = Value.ref a := rx
    obtain ⟨P, w, K, mg, base, lv⟩ := Γ
    obtain ⟨h1, h2, h3, h4, h5, _, hr⟩ := g
    simp only at h1 h2 h3 h4 h5 hr
    subst h1 h2 h3 h4 h5
    obtain ⟨f, fd, ps, ds, F, c, hm, hbi, hd⟩ := M.ex
    obtain ⟨od, J⟩ := own_at I ha
    obtain ⟨m, hF⟩ := I.fr
    refine PySem.W.in_K hF I.ok.mod.kin J hm.at_ hm.fn ?_
    refine wpAny_mono (run_fn (us := [.ref a, u]) (vs := [.ref a, y]) F (hr.mono hn) hbi hd passE I (.cons rfl (.cons ry .nil)) q) (fun w s' z => ?_) fun _ _ x => x
    obtain ⟨z', H', I', rz, qz⟩ := z
    obtain ⟨c, rfl, qz⟩ := qz
    obtain rfl : w = Value.bool c := rz
    exact wpAny_truthy_bool ⟨.bl c, H', I', rfl, qz⟩, a, dx, fs, rfl, ha, q⟩
theorem wo_niO {y : V} (M : Mt Γ CX0 n C "__contains__" sp []) (hn : n ≤ l) (ha : H a = some (.ins C dx fs)) (q : sp [.ref a, y] H (fun r H' => ∃ b, r = .bl b ∧ Q (.bl (!b)) H') E) : WO (Γ.at l) (compareOp .NotIn) y (.ref a) H Q :=
  ⟨fun y x H Q => ∃ a dx fs, x = .ref a ∧ H a = some (.ins C dx fs) ∧ sp [.ref a, y] H (fun r H' => ∃ b, r = .bl b ∧ Q (.bl (!b)) H') E, fun X g pins s σ H y x u v Q I ry rx ⟨a, dx, fs, ex, ha, q⟩ => by
    subst ex
    obtain rfl : v = Value.ref a := rx
    obtain ⟨P, w, K, mg, base, lv⟩ := Γ
    obtain ⟨h1, h2, h3, h4, h5, _, hr⟩ := g
    simp only at h1 h2 h3 h4 h5 hr
    subst h1 h2 h3 h4 h5
    obtain ⟨f, fd, ps, ds, F, c, hm, hbi, hd⟩ := M.ex
    obtain ⟨od, J⟩ := own_at I ha
    obtain ⟨m, hF⟩ := I.fr
    refine PySem.W.notIn_K hF I.ok.mod.kin J hm.at_ hm.fn ?_
    refine wpAny_mono (run_fn (us := [.ref a, u]) (vs := [.ref a, y]) F (hr.mono hn) hbi hd passE I (.cons rfl (.cons ry .nil)) q) (fun w s' z => ?_) fun _ _ x => x
    obtain ⟨z', H', I', rz, qz⟩ := z
    obtain ⟨c, rfl, qz⟩ := qz
    obtain rfl : w = Value.bool c := rz
    exact wpAny_truthy_bool ⟨.bl (!c), H', I', rfl, qz⟩, a, dx, fs, rfl, ha, q⟩
end
end G
namespace PySem.W
open PySem PySem.Calls PyProof.Rows
section
variable {prog : Program} {w : World} {A : Around} {E : Value → Shared → Prop} {s : Shared} {K : Frag} {x C f : Addr} {ox : Obj} {od : Option Obj} {b tb : Value}
theorem one_slot : Slot "object" "__ne__" "object.__ne__" :=
  Slot.of (T := "object") (name := "__ne__") (owner := "object") (n := "__ne__") (by rw [typeLookup_type, builtinLookup_eq_fast]; kernel_rfl) (by decide +kernel) (by decide +kernel) (by decide +kernel)
    (by first | exact .inl (by decide +kernel) | exact .inr (by decide +kernel)) (by rw [isSubtype_type]; kernel_rfl)
theorem ifBound_B {M : Model} {name : Str} {id : String} {args : List Value} {Q : Option Value → Shared → Prop} (X : K.In s.heap) (I : InstAt s.heap x ox C od) (hs : findIn K (.ref C) name = some (some (.builtin id)))
    (hb : ∀ self, bindSpecial (.builtin id) self = pure (.builtin id, [self])) (h : wpAny M A (call (.builtin id) (.ref x :: args)) (fun v => Q (some v)) E s) : wpAny M A (callSpecialIfBound? (.ref x) name args) Q E s := by
  simp only [callSpecialIfBound?, bindSpecialIfBound?]
  refine wpAny_holding (wpAny_bind (wpAny_bind (wpAny_bind (I.type.here ((looks_findIn X hs).here ?_)))))
  refine wpAny_bind (wpAny_askSetting (wpAny_ite ?_))
  have fin : wpAny M A (call (.builtin id) ([.ref x] ++ args) >>= fun v => pure (some v)) Q E s := wpAny_bind (wpAny_mono h (fun v s' h' => wpAny_pure h') fun _ _ h' => h')
  split
  · exact wpAny_bind ((Looks.of_pure (hb _)).here (wpAny_pure (by exact fin)))
  · exact wpAny_tryCatch (wpAny_bind ((Looks.of_pure (hb _)).here (wpAny_pure (by exact fin))))
open Builtin in
theorem ne_call {Q : Value → Shared → Prop} (hu : A.units + 1 < cLine) (X : K.In s.heap) (I : InstAt s.heap x ox C od) (hm : mroIn K C (.type "object") = some true)
    (he : findIn K (.ref C) "__eq__" = some (some (.ref f))) (hf : isFn K (.ref f) = true)
    (h : wpAny (model prog w) A.in1 (call (.ref f) [.ref x, b]) (fun r s' => ∃ c, r = .bool c ∧ Q (.bool (!c)) s') E s) : wpAny (model prog w) A (call (.builtin "object.__ne__") [.ref x, b]) Q E s := by
  refine wpAny_call (codeAny_call_builtin one_slot.plain PySem.F.cmpEntry_ne (check_slot (i := "object.__ne__") (owner := "object") (n := "__ne__") PySem.F.cmpKind_ne PySem.F.cmpSplit_ne (I.type.andThen (looks_mroIn X hm)) (PySem.F.cmpArgs_ne _ _) ?_))
  unfold Builtin.«object.__ne__»
  refine wpAny_bind (m := slotArgs "__ne__" 1 _) (wpAny_pure ?_)
  refine wpAny_bind (m := cRoomFor _ _) (wpAny_cRoomFor (by exact hu) ?_)
  refine wpAny_bind (m := callSpecialIfBound? (.ref x) (Str.ofString "__eq__") _) (ifBound_K X I he hf (wpAny_mono h (fun r s' hq => ?_) fun _ _ y => y))
  obtain ⟨c, rfl, hq⟩ := hq
  refine wpAny_bind (m := truthy (.bool c)) (wpAny_truthy_bool ?_)
  exact wpAny_pure hq
theorem ne_K {Q : Value → Shared → Prop} (hu : A.units + 1 < cLine) (X : K.In s.heap) (I : InstAt s.heap x ox C od) (hb : Looks (model prog w) s.heap (typeOf b) tb) (hn : notFirst K C tb = true) (hm : mroIn K C (.type "object") = some true)
    (hs : findIn K (.ref C) "__ne__" = some (some (.builtin "object.__ne__"))) (he : findIn K (.ref C) "__eq__" = some (some (.ref f))) (hf : isFn K (.ref f) = true)
    (h : wpAny (model prog w) A.in1 (call (.ref f) [.ref x, b]) (fun r s' => ∃ c, r = .bool c ∧ Q (.bool (!c)) s') E s) : wpAny (model prog w) A (richCompare .NotEq (.ref x) b) Q E s := by
  have hu0 : A.units < cLine := Nat.lt_of_succ_lt hu
  have one : wpAny (model prog w) A (tryCompare (.ref x) (cmpInfo .NotEq).2.1 b) (fun r s' => ∃ v, r = some v ∧ Q v s') E s := by
    unfold tryCompare
    refine wpAny_bind (ifBound_B X I hs one_slot.bind (wpAny_mono (ne_call hu X I hm he hf (Q := fun v s' => ∃ c, v = .bool c ∧ Q v s') (wpAny_mono h (fun r s' ⟨c, e, q⟩ => ⟨c, e, _, rfl, q⟩) fun _ _ y => y)) (fun v s' hv => ?_) fun _ _ e => e))
    obtain ⟨c, rfl, hq⟩ := hv
    exact wpAny_pure ⟨_, rfl, hq⟩
  unfold richCompare
  simp only [oneThing_ref]
  refine wpAny_holding (wpAny_bind (wpAny_cRoomFor hu0 ?_))
  refine wpAny_bind (I.type.here (wpAny_bind (hb.here ?_)))
  split
  · rename_i q
    have e : subIn K tb (.ref C) = some false := by
      rcases Bool.or_eq_true_iff.mp hn with e | e
      · rw [beq_iff_eq.mp e] at q; simp at q
      · exact beq_iff_eq.mp e
    refine wpAny_bind ((looks_subIn X e).here ?_)
    simp only [Bool.false_eq_true, if_false]
    refine wpAny_bind (wpAny_mono one (fun r s' z => ?_) fun _ _ e => e)
    obtain ⟨v, rfl, hq⟩ := z
    exact wpAny_pure hq
  · refine wpAny_bind (wpAny_pure ?_)
    simp only [Bool.false_eq_true, if_false]
    refine wpAny_bind (wpAny_mono one (fun r s' z => ?_) fun _ _ e => e)
    obtain ⟨v, rfl, hq⟩ := z
    exact wpAny_pure hq
/-- no __iop__ in the class: the binary one -/
theorem noInp {M : Model} {h : Heap} {nm : String} {add : Bool} {cd : ClassData} (X : K.In h) (hc : clsIn K C = some cd) (hl : ∀ c ∈ cd.mro, findIn K c (dunderI nm) = some none) : Looks M h (fillsInplaceSlot (.ref C) nm add) false := by
  unfold fillsInplaceSlot
  have key : ∀ l : List Value, (∀ c ∈ l, findIn K c (dunderI nm) = some none) → Looks M h (l.anyM fun c => do
      let some x ← typeLookup c (dunderI nm) | return false
      if let .type _ := c then return !isSeqSlot (some x)
      if !ownNameWrapper x (dunderI nm) then return true
      if !(← inheritsSeqSlot c (dunderI nm)) then return true
      if add then return (← seqSlot? c (dunderI nm)).isSome
      return false) false := by
    intro l
    induction l with
    | nil => intro _; exact .now
    | cons a r ih =>
      intro hl
      rw [List.anyM_cons]
      refine Looks.andThen (a := false) ?_ ?_
      · exact (looks_findIn X (hl a (.head _))).andThen .now
      · exact ih fun c hc => hl c (.tail _ hc)
  exact ((looks_clsIn X hc).andThen (f := fun cd => pure cd.mro) .now).andThen (key _ hl)
theorem bin1_K {op : Operator} {Q : Value → Shared → Prop} (X : K.In s.heap) (I : InstAt s.heap x ox C od) (hb : Looks (model prog w) s.heap (typeOf b) (.ref C)) (hc : selfFirst K C = true)
    (hs : findIn K (.ref C) (PySem.dunder op.info.2) = some (some (.ref f))) (hf : isFn K (.ref f) = true)
    (h : wpAny (model prog w) A (call (.ref f) [.ref x, b]) (CmpBack Q) E s) : wpAny (model prog w) A (binaryOp1 op.info.2 (.ref x) b) (fun r s' => ∃ v, r = some v ∧ Q v s') E s := by
  obtain ⟨cd, hcd, hm⟩ := any_some hc
  obtain ⟨rest, hm⟩ : ∃ rest, cd.mro = .ref C :: rest := by
    cases q : cd.mro with
    | nil => rw [q] at hm; cases hm
    | cons a r => rw [q] at hm; exact ⟨r, by rw [List.head?_cons] at hm; cases (beq_iff_eq.mp hm); rfl⟩
  unfold binaryOp1
  refine wpAny_bind (I.type.here (wpAny_bind (hb.here (wpAny_bind ((fills_K X hcd hm hs).here ?_)))))
  simp only [beq_self_eq_true, if_true]
  refine wpAny_bind (wpAny_pure ?_)
  simp only [Bool.and_false, Bool.false_eq_true, if_false, Bool.false_and]
  refine wpAny_bind (wpAny_pure ?_)
  simp only [Bool.false_eq_true, if_false]
  refine wpAny_bind (m := tryMethod (.ref x) _ b) ?_
  unfold tryMethod
  refine wpAny_bind (special_fn X I hs (beq_iff_eq.mp hf) (wpAny_mono h (fun v s' hv => ?_) fun _ _ e => e))
  cases v <;> first | exact hv.elim | exact wpAny_pure (wpAny_pure ⟨_, rfl, hv⟩)
theorem inp_K {op : Operator} {cd : ClassData} {Q : Value → Shared → Prop} (X : K.In s.heap) (I : InstAt s.heap x ox C od) (hb : Looks (model prog w) s.heap (typeOf b) (.ref C)) (hc : selfFirst K C = true)
    (hcl : clsIn K C = some cd) (hl : ∀ c ∈ cd.mro, findIn K c (dunderI op.info.2) = some none)
    (hs : findIn K (.ref C) (PySem.dunder op.info.2) = some (some (.ref f))) (hf : isFn K (.ref f) = true)
    (h : wpAny (model prog w) A (call (.ref f) [.ref x, b]) (CmpBack Q) E s) : wpAny (model prog w) A (inplaceOp op (.ref x) b) Q E s := by
  unfold inplaceOp
  refine wpAny_holding (wpAny_bind (I.type.here (wpAny_bind ((noInp X hcl hl).here ?_))))
  simp only [Bool.false_eq_true, if_false]
  refine wpAny_bind (m := binaryOp1 op.info.2 (.ref x) b) (wpAny_mono (bin1_K X I hb hc hs hf h) (fun r s' z => ?_) fun _ _ e => e)
  obtain ⟨v, rfl, hq⟩ := z
  exact wpAny_pure hq
end
end PySem.W
namespace G
open PySem PySem.Spec PyProof.Rows L2
section
variable {Γ : Gm} {X : Cx} {a b C dx dy : Addr} {fs gs : List (Str × V)} {H : Hp} {Q : VK} {n l : Nat} {sp : Sp} {E : XK}
theorem run_in1 {pins : List (Addr × Obj)} {σ : L2.St} {H : Hp} {s : Shared} {Q : VK} {CX : CXT} {k : Nat} {f : Addr} {fd : FuncData} {ps : List Str} {ds us : List Value} {vs dvs : List V} (F : FnOk X.prog X.w X.K X.mg X.base CX k f fd ps sp) (hr : Room (k + 1) X.A) (hb : L2.Binds X.K fd ps ds) (hd : Vals dvs ds) (hx : Passes CX X E)
    (I : Inv X pins σ H s) (r : Vals vs us) (h : sp (vs ++ dvs) H Q E) : wpAny (model X.prog X.w) X.A.in1 (call (.ref f) us) (EP X pins σ Q) X.xe s := by
  have r2 : Vals (vs ++ dvs) (us ++ ds) := r.append hd
  have hl : (us ++ ds).length = ps.length := by rw [← r2.length]; exact F.len _ _ _ _ h
  refine wpAny_call (codeAny_mono (F.run X.A.in1 X.stack s H ⟨us, []⟩ (us ++ ds) (vs ++ dvs) Q E hr.in1 I.env0.in1 (hb s us I.kIn hl) r2 h) fun r s' hq => ?_)
  cases r with
  | error e => exact hx pins σ H s e s' I hq
  | ok fl =>
    cases fl with
    | ret u => exact I.after hq
    | next => exact False.elim hq
    | brk => exact False.elim hq
    | cont => exact False.elim hq
/-- x != y by the class's __eq__ -/
theorem wo_neO {y : V} {t : Value} (k : Kls Γ C) (qn : PySem.W.findIn Γ.K (.ref C) "__ne__" = some (some (.builtin "object.__ne__"))) (M : Mt Γ CX0 n C "__eq__" sp []) (hn : n + 1 ≤ l) (ty : TyX Γ.K H y t) (nf : PySem.W.notFirst Γ.K C t = true) (ha : H a = some (.ins C dx fs))
    (q : sp [.ref a, y] H (fun r H' => ∃ b, r = .bl b ∧ Q (.bl (!b)) H') E) : WO (Γ.at l) (compareOp .NotEq) (.ref a) y H Q :=
  ⟨fun x y H Q => ∃ a dx fs t, x = .ref a ∧ H a = some (.ins C dx fs) ∧ TyX Γ.K H y t ∧ PySem.W.notFirst Γ.K C t = true ∧ sp [.ref a, y] H (fun r H' => ∃ b, r = .bl b ∧ Q (.bl (!b)) H') E, fun X g pins s σ H x y v u Q I rx ry ⟨a, dx, fs, t, ex, ha, ty, nf, q⟩ => by
    subst ex
    obtain rfl : v = Value.ref a := rx
    obtain ⟨P, w, K, mg, base, lv⟩ := Γ
    obtain ⟨h1, h2, h3, h4, h5, _, hr⟩ := g
    simp only at h1 h2 h3 h4 h5 hr
    subst h1 h2 h3 h4 h5
    obtain ⟨f, fd, ps, ds, F, c, hm, hbi, hd⟩ := M.ex
    obtain ⟨od, J⟩ := own_at I ha
    obtain ⟨P, kx, hP, _⟩ := kit_of I ry ty
    refine PySem.W.ne_K (tb := t) (hu_of (hr.mono (Nat.zero_le _))) I.kIn J (kx.ty _ _ I.kIn hP) nf k.cm qn hm.at_ hm.fn ?_
    refine wpAny_mono (run_in1 (us := [.ref a, u]) (vs := [.ref a, y]) F (hr.mono hn) hbi hd passE I (.cons rfl (.cons ry .nil)) q) (fun w s' z => ?_) fun _ _ x => x
    obtain ⟨z', H', I', rz, qz⟩ := z
    obtain ⟨c, rfl, qz⟩ := qz
    obtain rfl : w = Value.bool c := rz
    exact ⟨c, rfl, .bl (!c), H', I', rfl, qz⟩, a, dx, fs, t, rfl, ha, ty, nf, q⟩
/-- x op= y where the class has op alone -/
theorem wi_own {op : Operator} {cd : ClassData} (k : Kls Γ C) (hcl : PySem.W.clsIn Γ.K C = some cd) (hl : ∀ c ∈ cd.mro, PySem.W.findIn Γ.K c (dunderI op.info.2) = some none) (M : Mt Γ CX0 n C (PySem.dunder op.info.2) sp []) (hn : n ≤ l) (ha : H a = some (.ins C dx fs)) (hb : H b = some (.ins C dy gs)) (q : sp [.ref a, .ref b] H Q E) : WI (Γ.at l) op (.ref a) (.ref b) H Q :=
  ⟨fun x y H Q => ∃ a dx fs b dy gs, x = .ref a ∧ y = .ref b ∧ H a = some (.ins C dx fs) ∧ H b = some (.ins C dy gs) ∧ sp [.ref a, .ref b] H Q E, fun X g pins s σ H x y v u Q I rx ry ⟨a, dx, fs, b, dy, gs, ex, ey, ha, hb, q⟩ => by
    subst ex; subst ey
    obtain rfl : v = Value.ref a := rx
    obtain rfl : u = Value.ref b := ry
    obtain ⟨P, w, K, mg, base, lv⟩ := Γ
    obtain ⟨h1, h2, h3, h4, h5, _, hr⟩ := g
    simp only at h1 h2 h3 h4 h5 hr
    subst h1 h2 h3 h4 h5
    obtain ⟨f, fd, ps, ds, F, c, hm, hbi, hd⟩ := M.ex
    obtain ⟨od, J⟩ := own_at I ha
    obtain ⟨od', J'⟩ := own_at I hb
    refine PySem.W.inp_K I.kIn J J'.type k.first hcl hl hm.at_ hm.fn ?_
    refine wpAny_mono (run_fn (us := [.ref a, .ref b]) (vs := [.ref a, .ref b]) F (hr.mono hn) hbi hd passE I (.cons rfl (.cons rfl .nil)) q) (fun w s' z => ?_) fun _ _ x => x
    obtain ⟨z', H', I', rz, qz⟩ := z
    exact SlX.cmpback rz ⟨z', H', I', rz, qz⟩, a, dx, fs, b, dy, gs, rfl, rfl, ha, hb, q⟩
end
end G
/-! sets of texts: set(list), sorted(set); the library has them for ints and for tuples of ints -/
namespace L2
open PySem PySem.Spec PyProof.Rows
def keyS (e : Int × Value) : Str := match e.2 with
  | .str z _ => z
  | _ => Str.empty
def GoodS (P : Program) (w : World) (e : Int × Value) : Prop := ∃ z tk, e.2 = Value.str z tk ∧ e.1 = (strKind P w).hash z
def SetS (P : Program) (w : World) (h : Heap) (a : Addr) (L : List Str) : Prop :=
  ∃ o es ep t, h.get? a = some o ∧ o.ExactSet ∧ o.data = .set es ep t ∧ (∀ e ∈ es.toList, GoodS P w e) ∧ (es.toList.map keyS).Perm L ∧ L.Nodup ∧
    es.size < scanBound ∧ t.fits es.size = true ∧ Ris t.place.toList ∧ (w.params.followText "set-order" = true ∨ t.led = true)
section
variable {P : Program} {w : World} {h h' : Heap} {a : Addr} {L L' : List Str}
theorem SetS.at (R : SetS P w h a L) (k : ∀ o, h.get? a = some o → h'.get? a = some o) : SetS P w h' a L := by
  obtain ⟨o, es, ep, t, ho, r⟩ := R
  exact ⟨o, es, ep, t, k o ho, r⟩
theorem goodS_is {e : Int × Value} (g : GoodS P w e) (k : Str) : (strKind P w).is k e.2 = true ↔ keyS e = k := by
  obtain ⟨z, tk, h1, _⟩ := g
  unfold keyS
  rw [h1]
  constructor
  · intro q
    exact (strKind P w).inj _ _ _ (strKind_is P w z tk) q
  · intro q
    subst q
    exact strKind_is P w z tk
theorem goodS_elems {l : List (Int × Value)} (g : ∀ e ∈ l, GoodS P w e) : ElemsOf (strKind P w) l := fun e he => by
  obtain ⟨z, tk, h1, h2⟩ := g e he
  exact ⟨⟨z, by rw [h1]; exact strKind_is P w z tk, h2⟩, by rw [h1] <;> rfl⟩
end
section
variable {P : Program} {w : World} {A : Around} {E : Value → Shared → Prop} {s : Shared} {a : Addr} {L : List Str}
theorem setS_tail {g : Bool → Sem Unit} (hg : ∀ (b : Bool) (s₁ : Shared) (Q' : Unit → Shared → Prop), Q' () s₁ → wpAny (model P w) A (g b) Q' E s₁)
    {o : Obj} {es : Array (Int × Value)} {ep : Nat} {t : SetTable} (ho : s.heap.get? a = some o) (hex : o.ExactSet) (hd : o.data = .set es ep t)
    {es1 : Array (Int × Value)} {t2 : SetTable} (g1 : ∀ e ∈ es1.toList, GoodS P w e) (p1 : (es1.toList.map keyS).Perm L) (nd : L.Nodup)
    (hb1 : es1.size < scanBound) (hf2 : t2.fits es1.size = true) (hr : Ris t2.place.toList) (hl : w.params.followText "set-order" = true ∨ t2.led = true) {wasDummy : Bool} {R : Option Bool → Shared → Prop}
    (hR : ∀ h', Heap.SameBut a s.heap h' → SetS P w h' a L → R (some true) { s with heap := h' }) :
    wpAny (model P w) A (do
        storeSet a es1 t2
        if (!wasDummy && t2.tooFull) = true then do
            g (relayAll t2 es1 (SetTable.grown es1.size)).2.2
            storeSet a (relayAll t2 es1 (SetTable.grown es1.size)).1 (relayAll t2 es1 (SetTable.grown es1.size)).2.1
            pure (some true)
          else pure (some true)) R E s := by
  refine wpAny_bind (wpAny_storeSet_of ho hd ?_ (fits_of_scanBound hb1))
  have ho1 := store_at (es' := es1) (t' := t2) ho hd
  have sb1 := Heap.SameBut.update s.heap a (Obj.putSet es1 t2)
  split
  · have pm := relayAll_perm t2 es1 (SetTable.grown es1.size)
    have hf3 := relayAll_fits t2 es1 (SetTable.grown es1.size)
    have hr3 := relayAll_ris t2 es1 (SetTable.grown es1.size)
    have hl3 := relayAll_led t2 es1 (SetTable.grown es1.size)
    generalize relayAll t2 es1 (SetTable.grown es1.size) = Z at pm hf3 hr3 hl3 ⊢
    obtain ⟨es2, t3, gave⟩ := Z
    dsimp only at pm hf3 hr3 hl3 ⊢
    have hsz : es2.size = es1.size := by rw [← Array.length_toList, pm.length_eq, Array.length_toList]
    have hb2 : es2.size < scanBound := by rw [hsz]; exact hb1
    refine wpAny_bind (hg _ _ _ ?_)
    refine wpAny_bind (wpAny_storeSet_of ho1 rfl ?_ (fits_of_scanBound hb2))
    have ho2 := store_at (es' := es2) (t' := t3) ho1 rfl
    refine wpAny_pure (hR _ (sb1.trans (Heap.SameBut.update _ a _)) ?_)
    exact ⟨_, es2, _, t3, ho2, hex, rfl, fun e he => g1 e (pm.mem_iff.mp he), (pm.map keyS).trans p1, nd, hb2, hf3, hr3, hl.imp id fun z => by rw [hl3]; exact z⟩
  · exact wpAny_pure (hR _ sb1 ⟨_, es1, _, t2, ho1, hex, rfl, g1, p1, nd, hb1, hf2, hr, hl⟩)
theorem setS_add {k : Str} {tk : Tok} {Q : Bool → Shared → Prop} (R : SetS P w s.heap a L) (room : L.length + 1 < scanBound)
    (hQ : ∀ b h', Heap.SameBut a s.heap h' → SetS P w h' a (if k ∈ L then L else k :: L) → Q b { s with heap := h' }) :
    wpAny (model P w) A (setAddHashed a (.str k tk) ((strKind P w).hash k)) Q E s := by
  obtain ⟨o, es, ep, t, ho, hex, hd, g, pm0, nd, hb, hf, hr, hl⟩ := R
  have hkey : (strKind P w).is k (.str k tk) = true := strKind_is P w k tk
  have hsc : (Value.str k tk).scannable = true := rfl
  have hel : ElemsOf (strKind P w) es.toList := goodS_elems g
  unfold setAddHashed setAddHashedIn
  refine wpAny_holding (wpAny_bind (wpAny_setState_of ho hd hf ?_))
  dsimp only
  rw [byScan_of hsc hb hel]
  simp only [↓reduceIte]
  unfold setAddByScan
  refine wpAny_bind ?_
  refine wpAny_bind (wpAny_rule ?_)
  refine wpAny_bind (wpAny_setScan_of hkey ho hd hf hel ?_)
  cases hfi : List.findIdx? (fun e => (strKind P w).is k e.2) es.toList with
  | some j =>
    dsimp only
    obtain ⟨hj, pj, _⟩ := List.findIdx?_eq_some_iff_getElem.mp hfi
    have hk : k ∈ L := pm0.mem_iff.mp (List.mem_map.mpr ⟨_, List.getElem_mem hj, (goodS_is (g _ (List.getElem_mem hj)) k).mp pj⟩)
    refine wpAny_pure (wpAny_pure ?_)
    have q := hQ false s.heap (Heap.SameBut.refl a s.heap) (by rw [if_pos hk]; exact ⟨o, es, ep, t, ho, hex, hd, g, pm0, nd, hb, hf, hr, hl⟩)
    exact q
  | none =>
    dsimp only
    have hnk : k ∉ L := fun z => by
      obtain ⟨e, he, q⟩ := List.mem_map.mp (pm0.mem_iff.mpr z)
      have c := List.findIdx?_eq_none_iff.mp hfi e he
      rw [(goodS_is (g e he) k).mpr q] at c
      cases c
    have hgw : ∀ (b : Bool) {s₁ : Shared} {Q' : Unit → Shared → Prop}, Q' () s₁ → wpAny (model P w) A (match b with | true => rule "set.scan.the-table-gave-way" | false => pure ()) Q' E s₁ :=
      fun b s₁ Q' q => by cases b <;> first | exact wpAny_pure q | exact wpAny_rule q
    have pm := layNew_perm t es ((strKind P w).hash k) (.str k tk)
    have hf1 := layNew_fits t es ((strKind P w).hash k) (.str k tk)
    have hr1 := layNew_ris t es ((strKind P w).hash k) (.str k tk) hr
    have hl1 := layNew_led t es ((strKind P w).hash k) (.str k tk)
    generalize layNew t es ((strKind P w).hash k) (.str k tk) = Z at pm hf1 hr1 hl1 ⊢
    obtain ⟨es1, t1, wasDummy, gave⟩ := Z
    dsimp only at pm hf1 hr1 hl1 ⊢
    rw [Array.toList_push] at pm
    have pc : es1.toList.Perm (((strKind P w).hash k, Value.str k tk) :: es.toList) := pm.trans (List.perm_append_singleton _ _)
    have pk : (es1.toList.map keyS).Perm (k :: L) := (pc.map keyS).trans (List.Perm.cons k pm0)
    have g1 : ∀ e ∈ es1.toList, GoodS P w e := fun e he => by
      rcases List.mem_cons.mp (pc.mem_iff.mp he) with z | z
      · rw [z]; exact ⟨k, tk, rfl, rfl⟩
      · exact g e z
    have nd1 : (k :: L).Nodup := List.nodup_cons.mpr ⟨hnk, nd⟩
    have hsz : es1.size = L.length + 1 := by
      have := pk.length_eq
      rw [List.length_map, Array.length_toList, List.length_cons] at this
      exact this
    have hb1 : es1.size < scanBound := by rw [hsz]; exact room
    have hled : w.params.followText "set-order" = true ∨ t1.led = true := hl.imp id fun z => by rw [hl1]; exact z
    have fin : ∀ h', Heap.SameBut a s.heap h' → SetS P w h' a (k :: L) → Q true { s with heap := h' } := fun h' sb r => by
      have q := hQ true h' sb
      rw [if_neg hnk] at q
      exact q r
    refine wpAny_bind (hgw _ ?_)
    split
    · refine wpAny_bind ?_
      rw [hashByValue_scannable 8 hsc]
      refine wpAny_pure ?_
      refine setS_tail ?_ ho hex hd g1 pk nd1 hb1 ?_ ?_ ?_ ?_
      · intro b s₁ Q' q; cases b <;> first | exact wpAny_pure q | exact wpAny_rule q
      · first | (split <;> first | exact hf1 | exact SetTable.fits_plain_off hf1) | exact hf1
      · first | (split <;> exact hr1) | exact hr1
      · first | (split <;> exact hled) | exact hled
      · intro h' sb r; dsimp only; exact wpAny_pure (fin h' sb r)
    · refine wpAny_bind (wpAny_pure ?_)
      simp only [↓reduceIte]
      refine setS_tail ?_ ho hex hd g1 pk nd1 hb1 hf1 hr1 hled ?_
      · intro b s₁ Q' q; cases b <;> first | exact wpAny_pure q | exact wpAny_rule q
      · intro h' sb r; dsimp only; exact wpAny_pure (fin h' sb r)
/-- the texts met so far, each once -/
def metS : List Str → List Str
  | [] => []
  | z :: r => if z ∈ metS r then metS r else z :: metS r
theorem metS_mem {z : Str} : ∀ {l : List Str}, z ∈ metS l ↔ z ∈ l
  | [] => Iff.rfl
  | y :: r => by
    unfold metS
    split
    · rename_i h
      rw [metS_mem, List.mem_cons]
      exact ⟨.inr, fun q => q.elim (fun e => by rw [e]; exact metS_mem.mp h) id⟩
    · rw [List.mem_cons, List.mem_cons, metS_mem]
theorem metS_nodup : ∀ {l : List Str}, (metS l).Nodup
  | [] => List.nodup_nil
  | y :: r => by
    unfold metS
    split
    · exact metS_nodup
    · rename_i h
      exact List.nodup_cons.mpr ⟨h, metS_nodup⟩
theorem metS_len : ∀ {l : List Str}, (metS l).length ≤ l.length
  | [] => Nat.le_refl _
  | y :: r => by
    unfold metS
    have := metS_len (l := r)
    split
    · exact Nat.le_succ_of_le this
    · exact Nat.succ_le_succ this
theorem setS_update {I : Addr} {fp wr : List Addr} {G : Array GenState → Array GenState → Prop} {n : Nat} {Pv : Nat → Value → Prop} {St : Nat → Shared → Prop} {R : Result → Shared → Prop}
    (W : WalksS P w A.in1 I fp wr G n Pv St) (S : Addr) (hSf : S ∉ fp) (ns : List Str) (hn : n = ns.length) (hb : ns.length + 1 < scanBound) (hval : ∀ i v, Pv i v → ∃ k t, ns[i]? = some k ∧ v = .str k t) :
    ∀ (k i : Nat) (s : Shared), n - i = k → i ≤ n → St i s → SetS P w s.heap S (metS (ns.take i).reverse) →
      (∀ s', Moved (S :: wr) G s s' → SetS P w s'.heap S (metS ns.reverse) → R (.ok (.ret .none)) s') →
      codeAny (model P w) A (.builtin "set.update.loop" ⟨[.ref S, .ref I], []⟩) R s := by
  have hSw : S ∉ wr := fun h => hSf (W.sub _ h)
  have hsub : ∀ b ∈ wr, b ∈ S :: wr := fun b hb => List.mem_cons_of_mem _ hb
  intro k
  induction k with
  | zero =>
    intro i s hk' hi hst hS hR
    have hin : i = n := by omega
    subst hin
    refine codeAny_builtin F.entry_set_update_loop ?_
    rw [Around.under_plainId F.plain_set_update_loop _]
    show wpAny _ A.in1 (pyNext (.ref I) >>= _) _ _ s
    refine wpAny_bind (W.done s _ _ hst fun s' hm => ?_)
    show wpAny _ A.in1 (ret Value.none) _ _ s'
    have e : ns.take i = ns := List.take_of_length_le (by omega)
    rw [e] at hS
    exact wpAny_pure (hR s' (hm.mono hsub) (hS.at fun o e => hm.heap S o hSw e))
  | succ k ih =>
    intro i s hk' hi hst hS hR
    have hlt : i < n := by omega
    refine codeAny_builtin F.entry_set_update_loop ?_
    rw [Around.under_plainId F.plain_set_update_loop _]
    show wpAny _ A.in1 (pyNext (.ref I) >>= _) _ _ s
    refine wpAny_bind (W.item i s _ _ hlt hst fun v s' hP hst' hm => ?_)
    obtain ⟨z, t, hz, rfl⟩ := hval i v hP
    have hS' : SetS P w s'.heap S (metS (ns.take i).reverse) := hS.at fun o e => hm.heap S o hSw e
    show wpAny _ A.in1 (holding [Value.str z t] (setAdd S (.str z t)) >>= _) _ _ s'
    refine wpAny_bind (wpAny_holding ?_)
    unfold setAdd
    refine wpAny_holding ?_
    refine wpAny_bind ((strKind P w).pyHash (k := z) (strKind_is _ _ _ _) ?_)
    refine setS_add (s := { s' with toks := s'.toks + 1 }) hS' (by have := metS_len (l := (ns.take i).reverse); rw [List.length_reverse, List.length_take] at this; omega) fun b h' hsb hS2 => ?_
    have hS3 : SetS P w h' S (metS (ns.take (i + 1)).reverse) := by
      rw [List.take_add_one, hz]
      simp only [Option.toList_some, List.reverse_append, List.reverse_cons, List.reverse_nil, List.nil_append, List.singleton_append]
      exact hS2
    refine wpAny_pure ⟨plainId_quiet F.plain_set_update_loop _, ih (i + 1) _ (by omega) hlt (W.frame _ s' _ _ hst' (Nat.le_succ _) fun b hb o e => ?_) hS3 fun s'' hm'' hS'' => ?_⟩
    · rw [hsb.2 b (fun h : b = S => hSf (by rw [← h]; exact hb))]; exact e
    · refine hR s'' (Moved.trans W.gtrans ((hm.mono hsub).then_heap (Nat.le_succ _) fun b o hb e => ?_) hm'') hS''
      rw [hsb.2 b (fun h : b = S => hb (by rw [h]; exact List.mem_cons_self))]; exact e
theorem setS_fresh {h : Heap} {a : Addr} (ho : h.get? a = some { cls := .type "set", dict := none, data := .set #[] 0 (.fresh 0 0 (!w.params.followText "set-order")) }) : SetS P w h a [] :=
  ⟨_, #[], 0, _, ho, ⟨rfl, rfl, rfl⟩, rfl, (fun e he => by simp at he), List.Perm.refl _, List.nodup_nil, (by decide), (by rfl), List.Pairwise.nil, by
    show _ ∨ (!w.params.followText "set-order") = true
    cases w.params.followText "set-order"
    · exact .inr rfl
    · exact .inl rfl⟩
end
end L2
namespace L2
open PySem PySem.Spec PyProof.Rows
section
variable {P : Program} {w : World} {A : Around} {E : Value → Shared → Prop} {s : Shared}
theorem call_set_strs {l : Addr} {items : Array Value} (ns : List Str) {Q : Value → Shared → Prop} (hh : A.handled = none) (hl : s.heap.IsList l items) (hit : StrsAre items.toList ns) (hb : ns.length + 1 < scanBound)
    (h : ∀ (h' : Heap) (tk : Nat), SetS P w h' s.heap.objs.size (metS ns.reverse) → (∀ b o, s.heap.get? b = some o → h'.get? b = some o) → Q (.ref s.heap.objs.size) { s with heap := h', toks := tk }) :
    wpAny (model P w) A (call (.type "set") [.ref l]) Q E s := by
  have hisz : items.size = ns.length := by
    have q := hit.length
    rw [Array.length_toList] at q
    exact q
  obtain ⟨c, tl, hmro⟩ := F.called_set.mro
  have hmade := F.called_set.made
  have hsub := F.called_set.sub
  refine wpAny_call (codeAny_of_tree ?_)
  show wpAny _ _ (callAny (.type "set") _) _ _ _
  refine wpAny_pure ⟨Code.quiet_builtin _ (by decide +kernel), codeAny_builtin F.entry_type_call ?_⟩
  rw [Around.under_plain (weight_type_call_type "set" [.ref l] []) rfl]
  have h1 := F.called_set.notType
  have h2 := F.called_set.canCreate
  have hct := F.typeCall_set_1 (.ref l)
  repeat (any_goals (first | assumption | wp_step))
  refine codeAny_mono (code_set_led1 (.ref l) (E := E) (Q₁ := fun obj s₁ => obj = .ref s.heap.objs.size ∧ s₁ = { s with heap := s.heap.push { cls := .type "set", dict := none, data := .set #[] 0 (.fresh 0 0 (!w.params.followText "set-order")) } }) ⟨rfl, rfl⟩) fun r s₁ hr => ?_
  cases r with
  | error e => exact hr
  | ok fl =>
    cases fl with
    | ret obj =>
      obtain ⟨rfl, rfl⟩ := hr
      have hS : (s.heap.push { cls := .type "set", dict := none, data := .set #[] 0 (.fresh 0 0 (!w.params.followText "set-order")) }).get? s.heap.objs.size = some { cls := .type "set", dict := none, data := .set #[] 0 (.fresh 0 0 (!w.params.followText "set-order")) } := Heap.get?_push_size _ rfl
      have hT : Shared.TypeIs { s with heap := s.heap.push { cls := .type "set", dict := none, data := .set #[] 0 (.fresh 0 0 (!w.params.followText "set-order")) } } (.ref s.heap.objs.size) "set" := ⟨_, hS, rfl⟩
      have hli := F.called_set.init.lookup
      have hbi := F.called_set.init.bind (.ref s.heap.objs.size)
      repeat (any_goals (first | assumption | wp_step))
      refine codeAny_mono (codeAny_call_builtin (R := wants (fun r s₂ => r = .none ∧ ∃ h' tk, s₂ = { s with heap := h', toks := tk } ∧ SetS P w h' s.heap.objs.size (metS ns.reverse) ∧
          (∀ b o, s.heap.get? b = some o → h'.get? b = some o)) E) F.called_set.init.plain F.entry_set_init (check_set_init_1 hT ?_)) fun r₂ s₂ hr₂ => ?_
      · obtain ⟨ol, hol, hcl, nl, hdl⟩ := hl
        obtain ⟨ocls, odict, odata, oslots⟩ := ol
        simp only at hcl hdl
        subst hcl; subst hdl
        have hol' : (s.heap.push { cls := .type "set", dict := none, data := .set #[] 0 (.fresh 0 0 (!w.params.followText "set-order")) }).get? l = some { cls := .type "list", dict := odict, data := .seq items nl, slots := oslots } := Heap.get?_push_of_some _ hol
        have hsls := F.sub_list_set
        have hslf := F.sub_list_frozenset
        have hne : (Value.type "list" == Value.type "dict") = false := by decide
        have hl1 : (s.heap.push { cls := .type "set", dict := none, data := .set #[] 0 (.fresh 0 0 (!w.params.followText "set-order")) }).IsList l items := ⟨_, hol', rfl, nl, rfl⟩
        unfold Builtin.«set.__init__» noKeywords Builtin.Frozenset.updateFrom
        generalize hPI : pyIter = PI
        wp_walk
        subst hPI
        refine wpAny_pyIter_list hl1 ?_
        refine wpAny_bind (wpAny_runValue ?_)
        have hlS : l < s.heap.objs.size := Heap.lt_size hol
        have hh3 : A.in1.in1.in1.handled = none := by simp [hh]
        have hneI : l ≠ (s.heap.push { cls := .type "set", dict := none, data := .set #[] 0 (.fresh 0 0 (!w.params.followText "set-order")) }).objs.size := by
          rw [Heap.size_push]; exact Nat.ne_of_lt (Nat.lt_succ_of_lt hlS)
        have hSf : s.heap.objs.size ∉ [(s.heap.push { cls := .type "set", dict := none, data := .set #[] 0 (.fresh 0 0 (!w.params.followText "set-order")) }).objs.size, l] := by
          rw [Heap.size_push]; simp only [List.mem_cons, List.mem_singleton, List.not_mem_nil, or_false, not_or]
          exact ⟨Nat.ne_of_lt (Nat.lt_succ_self _), Nat.ne_of_gt hlS⟩
        have hval : ∀ (i : Nat) (v : Value), items[i]? = some v → ∃ k t, ns[i]? = some k ∧ v = .str k t := fun i v hv => by
          have q : items.toList[i]? = some v := by rw [Array.getElem?_toList]; exact hv
          have hi : i < ns.length := by rw [← hisz]; rw [← Array.length_toList]; exact (List.getElem?_eq_some_iff.mp q).1
          obtain ⟨t, ht⟩ := hit.get i _ (List.getElem?_eq_getElem hi)
          exact ⟨_, t, List.getElem?_eq_getElem hi, Option.some.inj (q.symm.trans ht)⟩
        refine setS_update ((Walks.list hh3 _ l hneI items).toS) s.heap.objs.size hSf ns hisz hb hval (items.size - 0) 0 _ (by omega) (Nat.zero_le _)
          ⟨⟨_, Heap.get?_push_size _ rfl, rfl, rfl⟩, (hl1.push _)⟩ (setS_fresh (Heap.get?_push_of_some _ hS)) ?hR
        case hR =>
          intro s' hm hS'
          have old : ∀ b o, s.heap.get? b = some o → s'.heap.get? b = some o := fun b o e => by
            have hb' : b < s.heap.objs.size := Heap.lt_size e
            refine hm.heap b o (fun z => ?_) (Heap.get?_push_of_some _ (Heap.get?_push_of_some _ e))
            rcases List.mem_cons.mp z with z | z
            · exact Nat.ne_of_lt hb' z
            · rw [Heap.size_push] at z
              exact Nat.ne_of_lt (Nat.lt_succ_of_lt hb') (List.mem_singleton.mp z)
          obtain ⟨h', g2, d', tk', os'⟩ := s'
          have eg : g2 = s.gens := hm.gens
          have ed : d' = s.drawn := hm.drawn
          have eo : os' = s.os := hm.os
          subst eg; subst ed; subst eo
          show wpAny _ _ _ _ _ _
          refine wpAny_pure ?_
          show wpAny _ _ (ret Value.none) _ _ _
          exact wpAny_pure ⟨rfl, h', tk', rfl, hS', old⟩
      · cases r₂ with
        | error e => exact hr₂
        | ok fl₂ =>
          cases fl₂ with
          | ret r =>
            obtain ⟨rfl, h', tk, rfl, hS', hk'⟩ := hr₂
            repeat (any_goals (first | assumption | wp_step))
            exact h _ _ hS' hk'
          | _ => exact hr₂.elim
    | _ => exact hr.elim
end
end L2
namespace L2
open PySem PySem.Spec PyProof.Rows
/-! ### sorted -/
theorem strs_of {P : Program} {w : World} : ∀ (l : List (Int × Value)), (∀ e ∈ l, GoodS P w e) → StrsAre (l.map (·.2)) (l.map keyS)
  | [], _ => .nil
  | e :: r, h => by
    obtain ⟨z, tk, h1, _⟩ := h e (.head _)
    have ih := strs_of r fun x hx => h x (.tail _ hx)
    have h2 : keyS e = z := by unfold keyS; rw [h1]
    rw [List.map_cons, List.map_cons, h1, h2]
    exact .cons z tk ih
theorem strs_perm {vs us : List Value} {xs : List Str} (h : StrsAre us xs) (p : vs.Perm us) : ∃ ys, StrsAre vs ys ∧ ys.Perm xs := by
  have key : ∀ v ∈ vs, ∃ z t, v = Value.str z t := fun v hv => by
    obtain ⟨i, hi⟩ := List.mem_iff_getElem?.mp (p.mem_iff.mp hv)
    have hl : i < xs.length := by rw [← h.length]; exact (List.getElem?_eq_some_iff.mp hi).1
    obtain ⟨t, ht⟩ := h.get i _ (List.getElem?_eq_getElem hl)
    exact ⟨_, t, Option.some.inj (hi.symm.trans ht)⟩
  have mk : ∀ l : List Value, (∀ v ∈ l, ∃ z t, v = Value.str z t) → StrsAre l (l.map fun v => keyS (0, v)) := by
    intro l
    induction l with
    | nil => intro _; exact .nil
    | cons v r ih =>
      intro hv
      obtain ⟨z, t, rfl⟩ := hv v (.head _)
      exact .cons z t (ih fun x hx => hv x (.tail _ hx))
  have un : ∀ {l : List Value} {ys : List Str}, StrsAre l ys → l.map (fun v => keyS (0, v)) = ys := by
    intro l ys q
    induction q with
    | nil => rfl
    | cons z t _ ih => rw [List.map_cons, ih]; rfl
  exact ⟨_, mk vs key, by have := p.map (fun v => keyS (0, v)); rw [un h] at this; exact this⟩
section
variable {P : Program} {w : World} {A : Around} {E : Value → Shared → Prop} {s : Shared} {a : Addr} {L : List Str}
theorem sorted_setS {Q : Value → Shared → Prop} (R : SetS P w s.heap a L) (hh : A.handled = none) (h64 : L.length < 64)
    (hQ : ∀ s' p (out : Array Value) (c : Nat) (ys : List Str), (∀ b o, s.heap.get? b = some o → s'.heap.get? b = some o) → s'.gens = s.gens → s'.os = s.os → s.heap.objs.size ≤ p →
      s'.heap.get? p = some (seqObj "list" out c) → StrsAre out.toList ys → ys.Perm L → sortedS ys = true → Q (.ref p) s') :
    wpAny (model P w) A (call (.builtin "sorted") [.ref a]) Q E s := by
  obtain ⟨o, es, ep, t, ho, hex, hd, g, pm0, nd, hb, hf, hr, hl⟩ := R
  refine Calls.call_function_entry kind_sorted plain_sorted entry_sorted (args_sorted1 _) ?_
  unfold Builtin.«sorted»
  refine wpAny_bind (m := checkCount "sorted" 1 1 _) (wpAny_pure ?_)
  refine wpAny_bind (collect_set (A := A.in1) hh ⟨o, ho, hex.1, hd⟩ hf hb hr hl fun s1 vs k1 hz g1 o1 pm => ?_)
  obtain ⟨xs, hI, px⟩ := strs_perm (strs_of es.toList g) pm
  have hvl : vs.length = L.length := by rw [hI.length, px.length_eq, pm0.length_eq]
  refine wpAny_bind (wpAny_newList ?_ (by rw [hvl, sizeLine_eq]; omega))
  have hoL : (s1.heap.push (seqObj "list" vs.toArray 0)).get? s1.heap.objs.size = some (seqObj "list" vs.toArray 0) := Heap.get?_push_size _ rfl
  refine wpAny_bind (wpAny_holding (wpAny_call_entry slot_list_sort ⟨_, hoL, rfl⟩ entry_list_sort (list_sort_treeK strKind_oneLt hoL hI.keysOf (fun v₁ v₂ rest e => keyKind_strs (by rw [← e]; exact hI)) (by rw [hvl]; exact h64) fun st' hp hs => ⟨_, rfl, ?_⟩) (args_list_sort _)))
  obtain ⟨ys, b1, b2, b3⟩ := sorted_out_str hI hp hs
  obtain ⟨c, hc⟩ := sortedHeap_at (vs := vs) (out := (arrOf st').map (·.2)) hoL
  refine wpAny_pure ⟨_, rfl, hQ _ s1.heap.objs.size _ c ys (fun b u e => ?_) g1 o1 hz hc b1 (b2.trans (px.trans pm0)) b3⟩
  have q := k1 b u e
  have hlt := Heap.lt_size q
  show (sortedHeap (s1.heap.push (seqObj "list" vs.toArray 0)) s1.heap.objs.size vs ((arrOf st').map (·.2))).get? b = some u
  rw [sortedHeap_old (Nat.ne_of_lt hlt) (by rw [size_push']; exact Nat.lt_succ_of_lt hlt)]
  exact Heap.get?_push_of_some _ q
end
/-! ### the rules -/
/-- the set of texts at a -/
def SetSO (P : Program) (w : World) (a : Addr) (L : List Str) : HO := .ext fun h => SetS P w h a L
theorem setSO_new {P : Program} {w : World} {H : Hp} {h : Heap} {a : Addr} {L : List Str} (R : SetS P w h a L) : ObjOk P w H h a (SetSO P w a L) := by
  have ⟨o, es, ep, t, ho, r⟩ := R
  refine ⟨R, ⟨o, ho⟩, fun h1 h2 p k => ?_⟩
  exact SetS.at (P := P) (w := w) p k
section
variable {X : Cx}
def rSetS (K : PySem.W.Frag) (P : Program) (w : World) : List V → Hp → VK → Prop := fun xs H Q => ∃ (l : Addr) (ns : List Str), xs = [V.ref l] ∧ SqL K H l (ns.map V.str) ∧ ns.length < 3000 ∧ ∀ a, H a = none → Q (.ref a) (upd H a (SetSO P w a (metS ns.reverse)))
theorem cr_setS (hc : X.calm = true) : CallR X (.type "set") (rSetS X.K X.prog X.w) := by
  intro pins s σ H xs us Q I r h
  obtain ⟨l, ns, rfl, hl, hf, q⟩ := h
  rw [Vals.ref1 r]
  obtain ⟨its, rv, pl, hz⟩ := I.list hl
  have hn : H s.heap.objs.size = none := I.hok.fresh (Nat.le_refl _)
  refine call_set_strs (P := X.prog) (w := X.w) ns (I.ok.hd hc) pl.isList (by simpa using rv.strs) (by unfold scanBound; omega) fun h' tk R k => ?_
  exact ⟨.ref s.heap.objs.size, upd H s.heap.objs.size (SetSO X.prog X.w s.heap.objs.size (metS ns.reverse)), I.laid (t' := tk) k (Nat.le_refl _) (setSO_new R), rfl, q _ hn⟩
/-- sorted(set) -/
def rSortSet (P : Program) (w : World) : List V → Hp → VK → Prop := fun vs H Q => ∃ (a : Addr) (L : List Str), vs = [V.ref a] ∧ H a = some (SetSO P w a L) ∧ L.length < 64 ∧
  ∀ (ys : List Str) (p : Addr), ys.Perm L → sortedS ys = true → H p = none → Q (.ref p) (upd H p (.lst (ys.map V.str)))
theorem cr_sortSet (hc : X.calm = true) : CallR X (.builtin "sorted") (rSortSet X.prog X.w) := by
  intro pins s σ H vs us Q I r h
  obtain ⟨a, L, rfl, ha, hf, q⟩ := h
  have R : SetS X.prog X.w s.heap a L := (I.hok a _ ha).1
  rw [Vals.ref1 r]
  refine sorted_setS R (I.ok.hd hc) hf fun s' p out c ys k g o hp hg hout pm pw => ?_
  have hlen : (ys.map V.str).length ≤ sizeLine := by rw [List.length_map, sizeLine_eq, pm.length_eq]; omega
  have hn : H p = none := I.hok.fresh hp
  have hv : Vals (ys.map V.str) out.toList := vals_of_strs hout
  have J : Inv X pins σ (upd H p (.lst (ys.map V.str))) { s with heap := s'.heap, gens := s'.gens, drawn := s'.drawn, toks := s'.toks } :=
    I.call (ch := []) (Un.laid k hp hn) (I.hok.laid k hp ⟨hlen, out.toList, c, hv, hg⟩) (by rw [g]; exact I.bare) (fun _ z => nomatch z)
  have e : s' = { s with heap := s'.heap, gens := s'.gens, drawn := s'.drawn, toks := s'.toks } := by
    cases s'
    cases s
    cases o
    rfl
  rw [e]
  exact ⟨.ref p, _, J, rfl, q ys p pm pw hn⟩
end
end L2
namespace G
open PySem PySem.Spec PyProof.Rows L2
section
variable {Γ : Gm} {H : Hp} {Q : VK} {l a : Addr} {ns L : List Str}
theorem wc_setS (m : SqL Γ.K H l (ns.map V.str)) (hl : ns.length < 3000) (q : ∀ a, H a = none → Q (.ref a) (upd H a (SetSO Γ.P Γ.w a (metS ns.reverse)))) : WC Γ (.type "set") [.ref l] H Q :=
  ⟨rSetS Γ.K Γ.P Γ.w, fun X g => (by have := cr_setS (X := X) g.calm; rw [g.K, g.P, g.w] at this; exact this), l, ns, rfl, m, hl, q⟩
theorem wc_sortSet (m : H a = some (SetSO Γ.P Γ.w a L)) (hl : L.length < 64) (q : ∀ (ys : List Str) (p : Addr), ys.Perm L → sortedS ys = true → H p = none → Q (.ref p) (upd H p (.lst (ys.map V.str)))) : WC Γ (.builtin "sorted") [.ref a] H Q :=
  ⟨rSortSet Γ.P Γ.w, fun X g => (by have := cr_sortSet (X := X) g.calm; rw [g.P, g.w] at this; exact this), a, L, rfl, m, hl, q⟩
theorem wc_sortS (m : SqL Γ.K H l (ns.map V.str)) (hl : ns.length < 64) (q : ∀ (ys : List Str) (p : Addr), ys.Perm ns → sortedS ys = true → H p = none → Q (.ref p) (upd H p (.lst (ys.map V.str)))) : WC Γ (.builtin "sorted") [.ref l] H Q :=
  ⟨rSortedS Γ.K, fun X g => (by have := cr_sortedS (X := X); rw [g.K] at this; exact this), l, ns, rfl, m, hl, q⟩
end
end G
/-! trees of formulas -/
namespace G
open PySem PySem.Spec PyProof.Rows L2
inductive Tr where
  | z (w : Str)
  | st (k : Str) (d : Int)
  | mk (k : Str)
  | one (w : Str) (a : Tr)
  | two (w : Str) (a b : Tr)
deriving DecidableEq
namespace Tr
def size : Tr → Nat
  | z _ => 1
  | st _ _ => 1
  | mk _ => 1
  | one _ a => size a + 1
  | two _ a b => size a + size b + 1
/-- how deep -/
def dep : Tr → Nat
  | z _ => 1
  | st _ _ => 1
  | mk _ => 1
  | one _ a => dep a + 1
  | two _ a b => max (dep a) (dep b) + 1
def word : Tr → Str
  | z w => w
  | st _ _ => "step"
  | mk _ => "marked"
  | one w _ => w
  | two w _ _ => w
def subs : Tr → List Tr
  | one _ a => [a]
  | two _ a b => [a, b]
  | _ => []
/-- the names behind a word, from the left -/
def told (w : Str) : Tr → List Str
  | z _ => []
  | st k _ => if (Str.ofString "step") = w then [k] else []
  | mk k => if (Str.ofString "marked") = w then [k] else []
  | one _ a => told w a
  | two _ a b => told w a ++ told w b
def steps : Tr → Nat
  | z _ => 0
  | st _ _ => 1
  | mk _ => 0
  | one _ a => steps a
  | two _ a b => steps a + steps b
/-- one behind the other, n times -/
def grp (t : Tr) : Nat → Tr
  | 0 => z "here"
  | 1 => t
  | n + 2 => two "then" (grp t (n + 1)) t
/-- a walk's way back -/
def back : Tr → Tr
  | st k d => st k (-d)
  | two w a b => two w (back b) (back a)
  | t => t
/-- the words that make names -/
def okw (w : Str) : Prop := w ≠ "step" ∧ w ≠ "marked" ∧ PyData.strOk w = true
/-- no word that is not one -/
def ok : Tr → Prop
  | z w => okw w
  | st k _ => PyData.strOk k = true
  | mk k => PyData.strOk k = true
  | one w a => okw w ∧ ok a
  | two w a b => okw w ∧ ok a ∧ ok b
def walk : Tr → Prop
  | z w => w = "here"
  | st _ _ => True
  | two w a b => w = "then" ∧ walk a ∧ walk b
  | _ => False
end Tr
/-- the tree stands at p -/
def TrP (K : PySem.W.Frag) (H : Hp) : Tr → Addr → Prop
  | .z w, p => SqT K H p [.str w]
  | .st k d, p => SqT K H p [.str "step", .str k, .int d]
  | .mk k, p => SqT K H p [.str "marked", .str k]
  | .one w a, p => ∃ q, SqT K H p [.str w, .ref q] ∧ TrP K H a q
  | .two w a b, p => ∃ q r, SqT K H p [.str w, .ref q, .ref r] ∧ TrP K H a q ∧ TrP K H b r
section
variable {E : Hv} {K : PySem.W.Frag} {H H' : Hp}
theorem sqt_loc {MC : Addr → Prop} {p : Addr} {xs : List V} (k : ∀ a o, H a = some o → a ∈ ([] : List Addr) ∨ Imm MC o → H' a = some o) (h : SqT K H p xs) : SqT K H' p xs := by
  rcases h with (h | ⟨o, h⟩) | h
  · exact .inl (.inl (k _ _ h (.inr trivial)))
  · exact .inl (.inr ⟨o, k _ _ h (.inr trivial)⟩)
  · exact .inr h
theorem TrP.loc {MC : Addr → Prop} : ∀ (t : Tr) (p : Addr), Loc MC [] fun H => TrP K H t p
  | .z w, p => fun H H' k h => sqt_loc k h
  | .st _ _, p => fun H H' k h => sqt_loc k h
  | .mk _, p => fun H H' k h => sqt_loc k h
  | .one w a, p => fun H H' k ⟨q, h, ha⟩ => ⟨q, sqt_loc k h, TrP.loc a q H H' k ha⟩
  | .two w a b, p => fun H H' k ⟨q, r, h, ha, hb⟩ => ⟨q, r, sqt_loc k h, TrP.loc a q H H' k ha, TrP.loc b r H H' k hb⟩
theorem TrP.same {t : Tr} {p : Addr} (h : TrP K H t p) (s : Same H H') : TrP K H' t p := TrP.loc (MC := fun _ => True) t p H H' (fun a o e _ => s a o e) h
def trF (t : Tr) (p : Addr) : PF E := ⟨fun H => TrP E.K H t p, TrP.loc t p⟩
/-- what stands in the tuple -/
def Its (K : PySem.W.Frag) (H : Hp) : Tr → List V → Prop
  | .z w, xs => xs = [.str w]
  | .st k d, xs => xs = [.str "step", .str k, .int d]
  | .mk k, xs => xs = [.str "marked", .str k]
  | .one w a, xs => ∃ q, xs = [.str w, .ref q] ∧ TrP K H a q
  | .two w a b, xs => ∃ q r, xs = [.str w, .ref q, .ref r] ∧ TrP K H a q ∧ TrP K H b r
theorem TrP.its {t : Tr} {p : Addr} (h : TrP K H t p) : ∃ xs, SqT K H p xs ∧ Its K H t xs := by
  cases t with
  | z w => exact ⟨_, h, rfl⟩
  | st k d => exact ⟨_, h, rfl⟩
  | mk k => exact ⟨_, h, rfl⟩
  | one w a => obtain ⟨q, h, ha⟩ := h; exact ⟨_, h, q, rfl, ha⟩
  | two w a b => obtain ⟨q, r, h, ha, hb⟩ := h; exact ⟨_, h, q, r, rfl, ha, hb⟩
theorem Its.word {t : Tr} {xs : List V} (h : Its K H t xs) : xs[0]? = some (.str t.word) := by
  cases t with
  | z w => cases h; rfl
  | st k d => cases h; rfl
  | mk k => cases h; rfl
  | one w a => obtain ⟨q, rfl, _⟩ := h; rfl
  | two w a b => obtain ⟨q, r, rfl, _⟩ := h; rfl
/-! ### equality -/
def Tr.data : Tr → PyData
  | .z w => .tuple [.str w]
  | .st k d => .tuple [.str "step", .str k, .int d]
  | .mk k => .tuple [.str "marked", .str k]
  | .one w a => .tuple [.str w, a.data]
  | .two w a b => .tuple [.str w, a.data, b.data]
theorem TrP.dp : ∀ {t : Tr} {p : Addr}, TrP K H t p → Dp K H (.ref p) t.data
  | .z w, p, h => .tup h (.cons (.str _) .nil)
  | .st k d, p, h => .tup h (.cons (.str _) (.cons (.str _) (.cons (.int _) .nil)))
  | .mk k, p, h => .tup h (.cons (.str _) (.cons (.str _) .nil))
  | .one w a, p, ⟨q, h, ha⟩ => .tup h (.cons (.str _) (.cons (TrP.dp ha) .nil))
  | .two w a b, p, ⟨q, r, h, ha, hb⟩ => .tup h (.cons (.str _) (.cons (TrP.dp ha) (.cons (TrP.dp hb) .nil)))
theorem Tr.depth : ∀ t : Tr, t.data.depth = t.dep
  | .z w => by simp [Tr.data, PyData.depth, PyData.depthAll, Tr.dep]
  | .st k d => by simp [Tr.data, PyData.depth, PyData.depthAll, Tr.dep]
  | .mk k => by simp [Tr.data, PyData.depth, PyData.depthAll, Tr.dep]
  | .one w a => by simp [Tr.data, PyData.depth, PyData.depthAll, Tr.dep, Tr.depth a]
  | .two w a b => by simp [Tr.data, PyData.depth, PyData.depthAll, Tr.dep, Tr.depth a, Tr.depth b]
theorem Tr.lay : ∀ {t : Tr}, t.ok → t.data.canLay0 = true
  | .z w, h => by simp [Tr.data, PyData.canLay0, PyData.canLayAll0]; exact h.2.2
  | .st k d, h => by simp [Tr.data, PyData.canLay0, PyData.canLayAll0]; exact ⟨by decide +kernel, h⟩
  | .mk k, h => by simp [Tr.data, PyData.canLay0, PyData.canLayAll0]; exact ⟨by decide +kernel, h⟩
  | .one w a, h => by simp [Tr.data, PyData.canLay0, PyData.canLayAll0]; exact ⟨h.1.2.2, Tr.lay h.2⟩
  | .two w a b, h => by simp [Tr.data, PyData.canLay0, PyData.canLayAll0]; exact ⟨h.1.2.2, Tr.lay h.2.1, Tr.lay h.2.2⟩
theorem Tr.shaped {t : Tr} (h : t.ok) (d : t.dep ≤ 64) : SeqAt.shaped t.data = true := by
  unfold SeqAt.shaped
  rw [Tr.lay h, Tr.depth]
  simp [d]
theorem Tr.e1 (t : Tr) (k : Str) : PyData.eqv (.str k) t.data = false := by cases t <;> simp [Tr.data, PyData.eqv]
theorem Tr.e2 (t : Tr) (k : Str) : PyData.eqv t.data (.str k) = false := by cases t <;> simp [Tr.data, PyData.eqv]
theorem Tr.e3 (t : Tr) (k : Int) : PyData.eqv (.int k) t.data = false := by cases t <;> simp [Tr.data, PyData.eqv]
theorem Tr.e4 (t : Tr) (k : Int) : PyData.eqv t.data (.int k) = false := by cases t <;> simp [Tr.data, PyData.eqv]
theorem sk (a b : Str) : PyData.eqv (.str a) (.str b) = (a == b) := by simp [PyData.eqv]
theorem ik (a b : Int) : PyData.eqv (.int a) (.int b) = (a == b) := by simp [PyData.eqv]
theorem tk (a b : List PyData) : PyData.eqv (.tuple a) (.tuple b) = PyData.eqvAll a b := by simp [PyData.eqv]
theorem Tr.eqv_iff : ∀ a b : Tr, PyData.eqv a.data b.data = true ↔ a = b := by
  intro a
  induction a with
  | z w => intro b; cases b <;> simp [Tr.data, tk, sk, ik, PyData.eqvAll, Tr.e1, Tr.e2, Tr.e3, Tr.e4]
  | st k d => intro b; cases b <;> simp [Tr.data, tk, sk, ik, PyData.eqvAll, Tr.e1, Tr.e2, Tr.e3, Tr.e4]
  | mk k => intro b; cases b <;> simp [Tr.data, tk, sk, ik, PyData.eqvAll, Tr.e1, Tr.e2, Tr.e3, Tr.e4]
  | one w a ih => intro b; cases b <;> simp [Tr.data, tk, sk, ik, PyData.eqvAll, Tr.e1, Tr.e2, Tr.e3, Tr.e4, ih]
  | two w a b ih1 ih2 => intro c; cases c <;> simp [Tr.data, tk, sk, ik, PyData.eqvAll, Tr.e1, Tr.e2, Tr.e3, Tr.e4, ih1, ih2]
theorem Tr.eqv (a b : Tr) : PyData.eqv a.data b.data = decide (a = b) := by
  have h := Tr.eqv_iff a b
  by_cases e : a = b
  · rw [decide_eq_true e]; exact h.mpr e
  · rw [decide_eq_false e]
    cases q : PyData.eqv a.data b.data with
    | false => rfl
    | true => exact absurd (h.mp q) e
/-- == of two trees -/
theorem wo_eqT {Γ : Gm} {Q : VK} {s t : Tr} {p q : Addr} (hp : TrP Γ.K H s p) (hq : TrP Γ.K H t q) (os : s.ok) (ot : t.ok) (ds : s.dep ≤ 64) (dt : t.dep ≤ 64) (k : Q (.bl (decide (s = t))) H) : WO Γ (compareOp .Eq) (.ref p) (.ref q) H Q :=
  ⟨rEqD Γ.K, fun X g => (by have := op_eqD (X := X) (Nat.lt_of_le_of_lt (Nat.le_refl _) g.hu64); rw [g.K] at this; exact this), _, _, hp.dp, hq.dp, Tr.shaped os ds, Tr.shaped ot dt, by rw [Tr.eqv]; exact k⟩
theorem wo_neT {Γ : Gm} {Q : VK} {s t : Tr} {p q : Addr} (hp : TrP Γ.K H s p) (hq : TrP Γ.K H t q) (os : s.ok) (ot : t.ok) (ds : s.dep ≤ 64) (dt : t.dep ≤ 64) (k : Q (.bl (!decide (s = t))) H) : WO Γ (compareOp .NotEq) (.ref p) (.ref q) H Q :=
  ⟨rNeD Γ.K, fun X g => (by have := op_neD (X := X) (Nat.lt_of_le_of_lt (Nat.le_refl _) g.hu64); rw [g.K] at this; exact this), _, _, hp.dp, hq.dp, Tr.shaped os ds, Tr.shaped ot dt, by rw [Tr.eqv]; exact k⟩
/-- isinstance -/
theorem wc_isi {Γ : Gm} {Q : VK} {x c : V} {t u : Value} {b : Bool} (k : ClsV c u) (ty : TyX Γ.K H x t) (e : PySem.W.kitOne Γ.K t u = some b) (q : Q (.bl b) H) : WC Γ (.builtin "isinstance") [x, c] H Q :=
  ⟨rIsi Γ.K, fun X g => (by have := call_isi (X := X); rw [g.K] at this; exact this), x, c, t, u, b, rfl, k, ty, e, q⟩
/-- a tuple's type, whatever it is -/
theorem sqt_ty {p : Addr} {xs : List V} (h : SqT K H p xs) : TyX K H (.ref p) (.type "tuple") := by
  rcases h with (h | ⟨o, h⟩) | h
  · exact .base (.tup h)
  · exact .fTuple h
  · obtain ⟨o, its, n, e, c, _⟩ := h
    exact .kTuple e c
theorem wc_all {Γ : Gm} {Q : VK} {a : Addr} {bs : List Bool} (m : SqL Γ.K H a (bs.map V.bl)) (q : Q (.bl (bs.all id)) H) : WC Γ (.builtin "all") [.ref a] H Q :=
  ⟨rAll Γ.K, fun X g => (by have := cr_all (X := X) g.calm; rw [g.K] at this; exact this), a, bs, rfl, m, q⟩
theorem wc_sum {Γ : Gm} {Q : VK} {a : Addr} {ns : List Int} (m : SqL Γ.K H a (ns.map V.int)) (q : Q (.int ns.sum) H) : WC Γ (.builtin "sum") [.ref a] H Q :=
  ⟨rSum Γ.K, fun X g => (by have := cr_sum (X := X) g.calm; rw [g.K] at this; exact this), a, ns, rfl, m, q⟩
/-- a sign within a text -/
theorem wo_in1 {Γ : Gm} {Q : VK} {z : Str} {c : Nat} (q : Q (.bl (decide (c ∈ z.cps.toList))) H) : WO Γ (compareOp .In) (.str ⟨#[c]⟩) (.str z) H Q :=
  ⟨_, fun X g => op_in_str, _, _, rfl, rfl, by
    have h := StrLaws.found_one z c
    rw [show (!(Builtin.Str.occurrences z ⟨#[c]⟩ 0 z.length 1).isEmpty) = decide (c ∈ z.cps.toList) from h]
    exact q⟩
theorem br_t {p : Prop} [Decidable p] {A B : Prop} (h : p) (a : A) : br (decide p) A B := by rw [decide_eq_true h]; exact a
theorem br_f {p : Prop} [Decidable p] {A B : Prop} (h : ¬ p) (b : B) : br (decide p) A B := by rw [decide_eq_false h]; exact b
theorem br_nt {p : Prop} [Decidable p] {A B : Prop} (h : p) (b : B) : br (!decide p) A B := by rw [decide_eq_true h]; exact b
theorem br_nf {p : Prop} [Decidable p] {A B : Prop} (h : ¬ p) (a : A) : br (!decide p) A B := by rw [decide_eq_false h]; exact a
/-- what stands behind the word -/
inductive Rest (K : PySem.W.Frag) (H : Hp) : List V → List Tr → Prop
  | nil : Rest K H [] []
  | str {z : Str} {r : List V} {ts : List Tr} : Rest K H r ts → Rest K H (.str z :: r) ts
  | int {i : Int} {r : List V} {ts : List Tr} : Rest K H r ts → Rest K H (.int i :: r) ts
  | ref {p : Addr} {t : Tr} {r : List V} {ts : List Tr} : TrP K H t p → Rest K H r ts → Rest K H (.ref p :: r) (t :: ts)
/-- trees side by side -/
inductive TrPs (K : PySem.W.Frag) (H : Hp) : List Tr → List Addr → Prop
  | nil : TrPs K H [] []
  | cons {t : Tr} {p : Addr} {ts : List Tr} {ps : List Addr} : TrP K H t p → TrPs K H ts ps → TrPs K H (t :: ts) (p :: ps)
def isRef : V → Bool
  | .ref _ => true
  | _ => false
theorem TrP.rest {t : Tr} {p : Addr} (h : TrP K H t p) : ∃ r, SqT K H p (.str t.word :: r) ∧ Rest K H r t.subs ∧ r.length ≤ 2 := by
  cases t with
  | z w => exact ⟨_, h, .nil, by simp⟩
  | st k d => exact ⟨_, h, .str (.int .nil), by simp⟩
  | mk k => exact ⟨_, h, .str .nil, by simp⟩
  | one w a => obtain ⟨q, h, ha⟩ := h; exact ⟨_, h, .ref ha .nil, by simp⟩
  | two w a b => obtain ⟨q, r, h, ha, hb⟩ := h; exact ⟨_, h, .ref ha (.ref hb .nil), by simp⟩
theorem Rest.at {r : List V} {ts : List Tr} (h : Rest K H r ts) : ∀ {i : Nat} {x : V}, r[i]? = some x → (∃ z, x = .str z) ∨ (∃ j, x = .int j) ∨ ∃ p t, x = .ref p ∧ TrP K H t p := by
  induction h with
  | nil => intro i x e; simp at e
  | str _ ih => intro i x e; cases i with
    | zero => simp at e; exact .inl ⟨_, e.symm⟩
    | succ i => exact ih e
  | int _ ih => intro i x e; cases i with
    | zero => simp at e; exact .inr (.inl ⟨_, e.symm⟩)
    | succ i => exact ih e
  | ref hp _ ih => intro i x e; cases i with
    | zero => simp at e; exact .inr (.inr ⟨_, _, e.symm, hp⟩)
    | succ i => exact ih e
theorem Rest.ps {r : List V} {ts : List Tr} (h : Rest K H r ts) : ∃ ps : List Addr, r.filter isRef = ps.map V.ref ∧ TrPs K H ts ps := by
  induction h with
  | nil => exact ⟨[], rfl, .nil⟩
  | str _ ih => exact ih
  | int _ ih => exact ih
  | @ref p t r ts hp _ ih =>
    obtain ⟨ps, e, h⟩ := ih
    refine ⟨p :: ps, ?_, .cons hp h⟩
    rw [List.filter_cons_of_pos rfl, e]
    rfl
theorem TrPs.same {ts : List Tr} {ps : List Addr} (h : TrPs K H ts ps) (s : Same H H') : TrPs K H' ts ps := by
  induction h with
  | nil => exact .nil
  | cons a _ ih => exact .cons (a.same s) ih
theorem TrPs.len {ts : List Tr} {ps : List Addr} (h : TrPs K H ts ps) : ps.length = ts.length := by
  induction h with
  | nil => rfl
  | cons _ _ ih => rw [List.length_cons, List.length_cons, ih]
theorem TrPs.get {ts : List Tr} {ps : List Addr} (h : TrPs K H ts ps) : ∀ {i : Nat} {p : Addr}, ps[i]? = some p → ∃ t, ts[i]? = some t ∧ TrP K H t p := by
  induction h with
  | nil => intro i p e; simp at e
  | cons a _ ih =>
    intro i p e
    cases i with
    | zero => simp at e; subst e; exact ⟨_, rfl, a⟩
    | succ i => exact ih e
theorem Tr.subs_dep {t s : Tr} (h : s ∈ t.subs) : s.dep < t.dep := by
  cases t with
  | one w a => simp [Tr.subs] at h; subst h; simp [Tr.dep]
  | two w a b => simp [Tr.subs] at h; rcases h with rfl | rfl <;> simp [Tr.dep] <;> omega
  | _ => simp [Tr.subs] at h
theorem Tr.subs_ok {t s : Tr} (o : t.ok) (h : s ∈ t.subs) : s.ok := by
  cases t with
  | one w a => simp [Tr.subs] at h; subst h; exact o.2
  | two w a b =>
    simp [Tr.subs] at h
    rcases h with rfl | rfl
    · exact o.2.1
    · exact o.2.2
  | _ => simp [Tr.subs] at h
/-- the name that stands at the tree's own word -/
def Tr.top (w : Str) : Tr → List Str
  | .st k _ => if (Str.ofString "step") = w then [k] else []
  | .mk k => if (Str.ofString "marked") = w then [k] else []
  | _ => []
theorem Tr.told_all (w : Str) : ∀ t : Tr, t.top w ++ (t.subs.map (Tr.told w)).flatten = t.told w
  | .z _ => rfl
  | .st _ _ => by simp [Tr.top, Tr.subs, Tr.told]
  | .mk _ => by simp [Tr.top, Tr.subs, Tr.told]
  | .one _ a => by simp [Tr.top, Tr.subs, Tr.told]
  | .two _ a b => by simp [Tr.top, Tr.subs, Tr.told]
theorem Tr.told_take (w : Str) (t : Tr) (n : Nat) : (t.top w ++ ((t.subs.take n).map (Tr.told w)).flatten).length ≤ (t.told w).length := by
  rw [← Tr.told_all w t]
  have h : t.subs.map (Tr.told w) = (t.subs.take n).map (Tr.told w) ++ (t.subs.drop n).map (Tr.told w) := by rw [← List.map_append, List.take_append_drop]
  rw [h, List.flatten_append]
  simp only [List.length_append]
  omega
theorem Tr.top_hit {w : Str} {t : Tr} {p : Addr} (hw : w = "step" ∨ w = "marked") (ok : t.ok) (hp : TrP K H t p) (h : t.word = w) : ∃ k, (∃ xs, SqT K H p xs ∧ xs[1]? = some (.str k)) ∧ t.top w = [k] := by
  cases t with
  | z v =>
    obtain rfl : v = w := h
    rcases hw with rfl | rfl
    · exact absurd rfl ok.1
    · exact absurd rfl ok.2.1
  | one v a =>
    obtain rfl : v = w := h
    rcases hw with rfl | rfl
    · exact absurd rfl ok.1.1
    · exact absurd rfl ok.1.2.1
  | two v a b =>
    obtain rfl : v = w := h
    rcases hw with rfl | rfl
    · exact absurd rfl ok.1.1
    · exact absurd rfl ok.1.2.1
  | st k d => exact ⟨k, ⟨_, hp, rfl⟩, by subst h; simp [Tr.top, Tr.word]⟩
  | mk k => exact ⟨k, ⟨_, hp, rfl⟩, by subst h; simp [Tr.top, Tr.word]⟩
theorem Tr.top_miss {w : Str} {t : Tr} (hw : w = "step" ∨ w = "marked") (ok : t.ok) (h : ¬ t.word = w) : t.top w = [] := by
  cases t with
  | st k d => exact if_neg h
  | mk k => exact if_neg h
  | _ => rfl
theorem Tr.steps_step {t : Tr} (ok : t.ok) (h : t.word = "step") : ((t.steps : Nat) : Int) = 1 := by
  cases t with
  | z v => exact absurd h ok.1
  | one v a => exact absurd h ok.1.1
  | two v a b => exact absurd h ok.1.1
  | st k d => rfl
  | mk k => exact absurd h (show ¬ (Str.ofString "marked" = Str.ofString "step") by decide +kernel)
theorem Tr.steps_sum {t : Tr} (ok : t.ok) (h : ¬ t.word = "step") : (t.subs.map fun s => ((Tr.steps s : Nat) : Int)).sum = ((t.steps : Nat) : Int) := by
  cases t with
  | st k d => exact absurd rfl h
  | z v => rfl
  | mk k => rfl
  | one v a => simp [Tr.subs, Tr.steps]
  | two v a b => simp [Tr.subs, Tr.steps]
/-! ### instances that hold a tree -/
def spInit (C : Addr) : Sp := fun vs H Q _ => ∃ (x dx : Addr) (v : V), vs = [.ref x, v] ∧ H x = some (.ins C dx []) ∧ Q .non (upd H x (.ins C dx [("form", v)]))
theorem made_same {x dx : Addr} {o o2 o3 : HO} (hx : H x = none) (hd : H dx = none) : Same H (upd (upd (upd H dx o) x o2) x o3) := fun a u e => by
  rw [upd_ne (ne_of_none e hx), upd_ne (ne_of_none e hx), upd_ne (ne_of_none e hd)]; exact e
/-- a new instance that holds v -/
theorem made {C : Addr} {v : V} {Q : VK} {E : XK} (q : ∀ c dx H', Same H H' → H' c = some (.ins C dx [("form", v)]) → Q (.ref c) H') :
    ∀ x dx, H x = none → H dx = none → dx ≠ x → spInit C (.ref x :: ([v] ++ [])) (upd (upd H dx (.own x)) x (.ins C dx [])) (fun v H2 => v = .non ∧ Q (.ref x) H2) E :=
  fun x dx hx hd _ => ⟨x, dx, v, rfl, upd_same, rfl, q x dx _ (made_same hx hd) upd_same⟩
/-- the instance of C at a holds the tree t -/
def LkP (K : PySem.W.Frag) (H : Hp) (C : Addr) (t : Tr) (a : Addr) : Prop := ∃ dx p, H a = some (.ins C dx [("form", .ref p)]) ∧ TrP K H t p
theorem LkP.same {C : Addr} {t : Tr} {a : Addr} (h : LkP K H C t a) (s : Same H H') : LkP K H' C t a := by
  obtain ⟨dx, p, e, h⟩ := h
  exact ⟨dx, p, s _ _ e, h.same s⟩
theorem TrP.fr {b : Addr} {xs : List V} {t : Tr} {p : Addr} (h : TrP K H t p) (f : Fr [b] H H') (hb : H b = some (.lst xs)) : TrP K H' t p :=
  TrP.loc (MC := fun _ => True) t p H H' (fun a o e i => f a o (fun z => by
    obtain rfl : a = b := List.mem_singleton.mp z
    rw [hb] at e; cases e
    rcases i with i | i
    · exact absurd i List.not_mem_nil
    · exact i) e) h
/-- what the text has of a class that holds a tree -/
structure KF (Γ : Gm) (x : Str) (C : Addr) : Prop where
  k : Kls Γ C
  na : NoAttr Γ.K C "form"
  mg : Γ.mg x = some (.ref C)
  me : PySem.W.kitOne Γ.K (.ref C) (.ref C) = some true
  tp : PySem.W.kitOne Γ.K (.type "tuple") (.ref C) = some false
  qn : PySem.W.findIn Γ.K (.ref C) "__ne__" = some (some (.builtin "object.__ne__"))
theorem KF.ty {Γ : Gm} {x : Str} {C a dx : Addr} {fs : List (Str × V)} (f : KF Γ x C) (h : H a = some (.ins C dx fs)) : TyX Γ.K H (.ref a) (.ref C) := .base (.ins h f.k.cls f.k.ca f.k.cn f.k.ct f.k.cm)
theorem KF.gc {Γ : Gm} {x : Str} {C : Addr} (f : KF Γ x C) : ∃ u, Γ.mg x = some u ∧ RelV (.ref C) u := ⟨_, f.mg, rfl⟩
/-- e.form -/
theorem wa_form {Γ : Gm} {l : Nat} {x : Str} {C a dx : Addr} {v : V} {Q : VK} (f : KF Γ x C) (h : H a = some (.ins C dx [("form", v)])) (q : Q v H) : WA (Γ.at l) "form" (.ref a) H Q := wa_fld (Γ := Γ.at l) f.k.cls f.na h (by rfl) q
end
end G
/-! list(text): the library has it for lists, tuples, dicts -/
namespace PySem.W
open PySem PyProof.Rows
section
variable {prog : Program} {w : World} {A : Around} {E : Value → Shared → Prop} {s : Shared}
theorem call_list_txt {Q : Value → Shared → Prop} (hh : A.handled = none) (x : Str) (t : Tok) (hn : x.cps.size ≤ sizeLine)
    (hQ : ∀ h' tk acc' c', (∀ b o, s.heap.get? b = some o → h'.get? b = some o) → h'.get? s.heap.objs.size = some { cls := .type "list", dict := none, data := .seq acc' c', slots := #[] } → ItemsOf (SignAt x) acc' x.cps.size → Q (.ref s.heap.objs.size) { s with heap := h', toks := tk }) :
    wpAny (model prog w) A (call (.type "list") [.str x t]) Q E s := by
  refine callType_codes (Q₁ := fun obj s₁ => obj = .ref s.heap.objs.size ∧ s₁ = { s with heap := s.heap.push { cls := .type "list", data := .seq #[] } }) PySem.F.called_list (PySem.F.typeCall_list_1 _) PySem.F.entry_list_init
    (code_list_new _ ⟨rfl, rfl⟩) fun obj s₁ h₁ => ?_
  obtain ⟨rfl, rfl⟩ := h₁
  have hS : (s.heap.push { cls := .type "list", data := .seq #[] }).get? s.heap.objs.size = some { cls := .type "list", data := .seq #[] } := Heap.get?_push_size _ rfl
  refine ⟨⟨_, hS, rfl⟩, PySem.F.args_list_init_2 _ _, ?_⟩
  show wpAny _ _ (do let old ← Builtin.List.listItems (.ref s.heap.objs.size); Builtin.List.listUpdate (.ref s.heap.objs.size) (fun _ => #[]); letGo old.toList.reverse; Builtin.List.listExtendWith (.ref s.heap.objs.size) (.str x t) .none) _ _ _
  refine wpAny_bind ?_
  unfold Builtin.List.listItems
  refine wpAny_bind (wpAny_seqItems hS rfl (wpAny_pure ?_))
  show wpAny _ _ (updateSeq s.heap.objs.size (fun _ => #[]) >>= fun _ => letGo (#[] : Array Value).toList.reverse >>= fun _ => Builtin.List.listExtendWith (.ref s.heap.objs.size) (.str x t) .none) _ _ _
  refine wpAny_bind (wpAny_updateSeq hS rfl ?_)
  have hS₂ := Heap.get?_update_self (Obj.mapSeq (fun _ => (#[] : Array Value))) hS rfl
  have sz : ((s.heap.push { cls := .type "list", data := .seq #[] }).update s.heap.objs.size (Obj.mapSeq (fun _ => (#[] : Array Value)))).objs.size = s.heap.objs.size + 1 := by rw [Heap.size_update, Heap.size_push]
  have oth : ∀ b o, s.heap.get? b = some o → ((s.heap.push { cls := .type "list", data := .seq #[] }).update s.heap.objs.size (Obj.mapSeq (fun _ => (#[] : Array Value)))).get? b = some o :=
    fun b o e => (Heap.get?_update_other _ _ (Nat.ne_of_gt (Heap.lt_size e))).trans (Heap.get?_push_of_some _ e)
  generalize ((s.heap.push { cls := .type "list", data := .seq #[] }).update s.heap.objs.size (Obj.mapSeq (fun _ => (#[] : Array Value)))) = H at hS₂ sz oth ⊢
  refine wpAny_bind (wpAny_letGo ?_)
  unfold Builtin.List.listExtendWith
  refine wpAny_bind (wpAny_typeOf (T := "str") (v := .str x t) rfl ?_)
  have h1 : Builtin.List.listSameRef (.ref s.heap.objs.size) (.str x t) = false := rfl
  have h2 : (Value.type "str" == Value.type "list") = false := by decide
  have h3 : (Value.type "str" == Value.type "tuple") = false := by decide
  simp only [h1, h2, h3, Bool.or_false, Bool.false_eq_true, if_false]
  refine wpAny_bind (wpAny_pyIter_str fun o St W hst => ?_)
  refine wpAny_bind (wpAny_holding ?_)
  unfold Builtin.List.listLengthHint
  refine wpAny_bind (wpAny_specialOf (T := "str") (v := .str x t) rfl PySem.F.str_len ?_)
  wp_delta
  refine wpAny_bind (wpAny_isInstance (T := "str") (v := .str x t) (b := true) rfl (by rw [isSubtype_type]; kernel_rfl) ?_)
  show wpAny _ A.in1.in1 (typeOf (Value.str x t) >>= _) _ _ _
  refine wpAny_bind (wpAny_typeOf (T := "str") (v := .str x t) rfl ?_)
  refine wpAny_pure ?_
  rw [if_neg (by decide)]
  have hSf : s.heap.objs.size ∉ [H.objs.size] := fun hm => by rw [List.mem_singleton.mp hm] at sz; exact absurd sz (Nat.ne_of_lt (Nat.lt_succ_self _))
  refine wpAny_pure ⟨plainId_quiet PySem.F.plain_extend_loop _, codeAny_extend_loopS (W A.in1.in1 (by simpa using hh)).toS hn _ hSf _ x.cps.size 0 _ _ _ rfl (Nat.zero_le _) hst (Heap.get?_push_of_some _ hS₂) (ItemsOf.nil _) fun s' acc' c' hm hS' hacc => ?_⟩
  rw [Moved.eq_with hm]
  refine ⟨rfl, hQ s'.heap s'.toks acc' c' (fun b o e => hm.heap b o (fun hmem => ?_) (Heap.get?_push_of_some _ (oth b o e))) hS' hacc⟩
  have hlt := Heap.lt_size e
  rcases List.mem_cons.mp hmem with h | h
  · exact absurd hlt (h ▸ Nat.lt_irrefl _)
  · rw [List.mem_singleton.mp h, sz] at hlt; exact absurd hlt (Nat.not_lt.mpr (Nat.le_succ _))
end
end PySem.W
namespace G
open PySem PySem.Spec PyProof.Rows L2
/-- a text's sgs -/
def sgs (z : Str) : List V := z.cps.toList.map fun c => V.str ⟨#[c]⟩
def rLstS : List V → Hp → VK → Prop := fun xs H Q => ∃ z : Str, xs = [.str z] ∧ z.length ≤ sizeLine ∧ ∀ p, H p = none → Q (.ref p) (upd H p (.lst (sgs z)))
theorem cr_listS {X : Cx} (hc : X.calm = true) : CallR X (.type "list") rLstS := by
  intro pins s σ H xs us Q I r h
  obtain ⟨z, rfl, hz, q⟩ := h
  obtain ⟨u, rfl, rx⟩ := vals1 r
  obtain ⟨t, rfl⟩ := rx
  refine PySem.W.call_list_txt (I.ok.hd hc) z t hz fun h' tk acc c kp e hi => ?_
  have hn : H s.heap.objs.size = none := I.hok.fresh (Nat.le_refl _)
  have hv : Vals (sgs z) acc.toList := vals_of_at (by have h1 : acc.toList.length = acc.size := Array.length_toList; have h2 := hi.1; rw [h1, h2]; unfold sgs; rw [List.length_map]; exact Array.length_toList) fun j x u hx hu => by
    obtain ⟨c0, t0, hc0, rfl⟩ := hi.2 j u (by rw [← Array.getElem?_toList]; exact hu)
    unfold sgs at hx
    rw [List.getElem?_map, Array.getElem?_toList, hc0] at hx
    obtain rfl := (Option.some.inj hx).symm
    exact ⟨t0, rfl⟩
  have hl : (sgs z).length ≤ sizeLine := by unfold sgs; rw [List.length_map, Array.length_toList]; exact hz
  exact ⟨.ref s.heap.objs.size, upd H s.heap.objs.size (.lst (sgs z)), I.laid (t' := tk) kp (Nat.le_refl _) (show ObjOk X.prog X.w _ h' _ (.lst (sgs z)) from ⟨hl, acc.toList, c, hv, by simpa using e⟩), rfl, q _ hn⟩
section
variable {Γ : Gm} {H : Hp} {Q : VK} {E : Hv} {H0 : Hp} {S0 : List Addr} {F : List (PF E)} {R R' : List (RS E)}
theorem wc_listS {z : Str} (hz : z.length ≤ sizeLine) (q : ∀ p, H p = none → Q (.ref p) (upd H p (.lst (sgs z)))) : WC Γ (.type "list") [.str z] H Q :=
  ⟨rLstS, fun X g => cr_listS g.calm, z, rfl, hz, q⟩
/-- one sign -/
def sg1 (c : Nat) : Str := ⟨#[c]⟩
theorem joinL1 : ∀ l : List Nat, TL.joinL [] (l.map fun c => [c]) = l
  | [] => rfl
  | [c] => rfl
  | c :: d :: r => by
    have ih := joinL1 (d :: r)
    show [c] ++ ([] ++ TL.joinL [] ((d :: r).map fun c => [c])) = c :: d :: r
    rw [ih]
    rfl
theorem jn1 (l : List Nat) : Txt.join (Str.ofString "") (l.map sg1) = ⟨l.toArray⟩ := by
  have h := SX.join_S [] (l.map fun c => [c])
  rw [joinL1, List.map_map] at h
  exact h
theorem let_mem {c : Nat} (h : c ∈ (Str.ofString "abcdefghijklmnopqrstuvwxyz").cps.toList) : 97 ≤ c ∧ c ≤ 122 := by
  rw [show (Str.ofString "abcdefghijklmnopqrstuvwxyz").cps.toList = List.range' 97 26 from by decide +kernel, List.mem_range'_1] at h
  omega
theorem let_len : (Str.ofString "abcdefghijklmnopqrstuvwxyz").length = 26 := by decide +kernel
theorem let_nd : (Str.ofString "abcdefghijklmnopqrstuvwxyz").cps.toList.Nodup := by decide +kernel
theorem sg_sum : ∀ l : List Nat, ((l.map sg1).map (·.length)).sum = l.length
  | [] => rfl
  | c :: r => by
    have ih := sg_sum r
    rw [List.map_cons, List.map_cons, List.sum_cons, ih, List.length_cons]
    show 1 + r.length = r.length + 1
    omega
theorem app_list (a b : Str) : (a ++ b).cps.toList = a.cps.toList ++ b.cps.toList := Array.toList_append
/-- what is picked of a text's signs -/
theorem picked {z : Str} {xs r : List V} (h : (xs ++ r).Perm (sgs z)) (nd : z.cps.toList.Nodup) : ∃ cs : List Nat, xs = cs.map (fun c => V.str (sg1 c)) ∧ cs.Nodup ∧ ∀ c ∈ cs, c ∈ z.cps.toList := by
  let of : V → Nat := fun v => match v with
    | .str y => y.cps.getD 0 0
    | _ => 0
  have hof : ∀ c : Nat, of (V.str (sg1 c)) = c := fun c => rfl
  have h2 := h.map of
  unfold sgs at h2
  rw [List.map_map, show (of ∘ fun c => V.str (⟨#[c]⟩ : Str)) = id from rfl, List.map_id, List.map_append] at h2
  refine ⟨xs.map of, ?_, ?_, fun c hc => h2.mem_iff.mp (List.mem_append_left _ hc)⟩
  · rw [List.map_map]
    refine (List.map_id xs).symm.trans (List.map_congr_left fun x hx => ?_)
    have hx2 := h.mem_iff.mp (List.mem_append_left _ hx)
    unfold sgs at hx2
    obtain ⟨c, _, rfl⟩ := List.mem_map.mp hx2
    rfl
  · exact (List.nodup_append.mp (h2.nodup_iff.mpr nd)).1
/-! ### the law's draws -/
/-- the box: what is left of the great number, the mixed number, how often was drawn; n draws are still allowed -/
def Box (b : Addr) (n : Nat) (H : Hp) : Prop := ∃ i j k : Int, H b = some (.lst [.int i, .int j, .int k]) ∧ 0 ≤ j ∧ j < 2 ^ 62 ∧ 0 ≤ k ∧ k + n ≤ 2 ^ 40
theorem Box.less {b : Addr} {n m : Nat} (h : Box b n H) (l : m ≤ n) : Box b m H := by
  obtain ⟨i, j, k, h, a, c, d, e⟩ := h
  exact ⟨i, j, k, h, a, c, d, by omega⟩
theorem Box.cell {b : Addr} {n : Nat} (h : Box b n H) : ∃ xs, H b = some (.lst xs) := by
  obtain ⟨i, j, k, h, _⟩ := h
  exact ⟨_, h⟩
def boxR (b : Addr) (n : Nat) : RS E := ⟨[b], Box b n, fun H H' k ⟨i, j, l, h, r⟩ => ⟨i, j, l, k _ _ h (.inl (.head _)), r⟩, false⟩
/-- a draw, or several -/
theorem SS.draw {b : Addr} {m n : Nat} {H' : Hp} (s : SS E H0 S0 H F R) (p : Pick R (boxR b m) R' (boxR b n)) (f : Fr [b] H H') (h : Box b n H') : SS E H0 S0 H' F R' :=
  s.upd p rfl f h (List.nodup_cons.mpr ⟨List.not_mem_nil, List.nodup_nil⟩) (fun a h => .inl h) fun a ha => by
    cases ha with
    | head => obtain ⟨xs, e⟩ := h.cell; exact ⟨_, e, fun z => z⟩
    | tail _ z => cases z
/-- draws that end in a new list -/
theorem SS.drawN {b q : Addr} {m n : Nat} {H' : Hp} {o : HO} (s : SS E H0 S0 H F R) (p : Pick R (boxR b m) R' (boxR b n)) (f : Fr [b] H H') (h : Box b n H') (hq : H q = none) (hc : H' q = some o) (no : ¬ Imm E.MC o) : SS E H0 S0 H' F (cellR q o :: R') := by
  have s' := s.draw p f h
  obtain ⟨xs, eb⟩ := (show Box b m H from s.r _ p.mem).cell
  have hqf : q ∉ fps R' := fun z => by
    rcases fps_pick p q z with z | z
    · rw [List.mem_singleton.mp z, eb] at hq; cases hq
    · obtain ⟨u, hu, _⟩ := s.tr q z
      rw [hu] at hq; cases hq
  refine ⟨s'.f, fun x hx => ?_, List.nodup_cons.mpr ⟨hqf, s'.nd⟩, fun a ha => ?_, s'.fr, fun a ha => ?_⟩
  · cases hx with
    | head => exact hc
    | tail _ hx => exact s'.r x hx
  · rcases List.mem_cons.mp ha with rfl | ha
    · exact ⟨o, hc, no⟩
    · exact s'.tr a ha
  · rcases List.mem_cons.mp ha with rfl | ha
    · by_cases hs : a ∈ S0
      · exact .inl hs
      · refine .inr ?_
        cases e : H0 a with
        | none => rfl
        | some u => rw [s.fr a u hs e] at hq; cases hq
    · exact s'.ow a ha
theorem SS.box {b : Addr} {n : Nat} (s : SS E H0 S0 H F R) (m : boxR b n ∈ R) : Box b n H := s.r _ m
/-- at the entry: a box -/
theorem SS.box1 {b : Addr} {n : Nat} (h : Box b n H) : SS E H [b] H [] [boxR b n] := SS.start (E := E) (F := []) (R := [boxR b n]) (fun _ h => nomatch h) (fun x hx => by
    cases hx with
    | head => exact h
    | tail _ z => cases z) (List.nodup_cons.mpr ⟨List.not_mem_nil, List.nodup_nil⟩) fun a ha => by
    cases ha with
    | head => obtain ⟨xs, e⟩ := h.cell; exact ⟨_, e, fun z => z⟩
    | tail _ z => cases z
/-- xs.pop(i) -/
theorem pop_ss {l : Addr} {xs : List V} {i : Int} {j : Nat} {y : V} (s : SS E H0 S0 H F R) (p : Pick R (lstR l xs) R' (lstR l (xs.eraseIdx j))) (hi : i = (j : Int)) (hj : xs[j]? = some y) (hb : j < 2 ^ 62)
    (k : ∀ H', SS E H0 S0 H' F R' → Q y H') : rPopAt (.ref l) [.int i] H Q := by
  have hlt := (List.getElem?_eq_some_iff.mp hj).1
  refine ⟨l, xs, i, j, y, rfl, rfl, s.cell p.mem, by omega, by omega, ?_, hj, k _ (s.put p (fun z => z))⟩
  subst hi
  unfold seqIndex?
  simp
  omega
end
end G
/-! trees as the laws draw them -/
namespace G
open PySem PySem.Spec PyProof.Rows L2
/-- a look (false), a test (true), of these kinds and marks -/
def Tr.wf (ks ms : List Str) : Bool → Tr → Prop
  | false, .z w => w = "here"
  | true, .z w => w = "always"
  | false, .st k d => k ∈ ks ∧ (d = 1 ∨ d = -1)
  | true, .st _ _ => False
  | true, .mk k => k ∈ ms
  | false, .mk _ => False
  | true, .one w a => (w = "found" ∧ Tr.wf ks ms false a) ∨ (w = "not" ∧ Tr.wf ks ms true a)
  | false, .one _ _ => False
  | false, .two w a b => ((w = "then" ∨ w = "or" ∨ w = "and") ∧ Tr.wf ks ms false a ∧ Tr.wf ks ms false b) ∨ (w = "when" ∧ Tr.wf ks ms false a ∧ Tr.wf ks ms true b)
  | true, .two w a b => (w = "same" ∧ Tr.wf ks ms false a ∧ Tr.wf ks ms false b) ∨ ((w = "and" ∨ w = "or" ∨ w = "xor") ∧ Tr.wf ks ms true a ∧ Tr.wf ks ms true b)
/-- at least as many as the brackets in a tree's text -/
def Tr.brk : Tr → Nat
  | .z _ => 0
  | .st _ _ => 0
  | .mk _ => 1
  | .one _ a => Tr.brk a + 1
  | .two _ a b => Tr.brk a + Tr.brk b + 2
def brB : Bool → Nat → Nat → Prop
  | false, k, n => k + 5 ≤ 7 * n
  | true, k, n => k + 3 ≤ 7 * n
theorem brB.one {w : Str} {a : Tr} {n : Nat} (h : brB false a.brk n) : brB true (Tr.one w a).brk n := by
  have h : a.brk + 5 ≤ 7 * n := h
  show a.brk + 1 + 3 ≤ 7 * n
  omega
theorem brB.two {w : Str} {c d : Bool} {a b : Tr} {m n : Nat} (h : brB c a.brk m) (k : brB d b.brk n) (e : c = false ∨ d = false) : brB false (Tr.two w a b).brk (m + n) := by
  have h : a.brk + 3 ≤ 7 * m ∧ (c = false → a.brk + 5 ≤ 7 * m) := by
    cases c with
    | false => exact ⟨Nat.le_trans (Nat.add_le_add_left (by decide) _) h, fun _ => h⟩
    | true => exact ⟨h, fun z => nomatch z⟩
  have k : b.brk + 3 ≤ 7 * n ∧ (d = false → b.brk + 5 ≤ 7 * n) := by
    cases d with
    | false => exact ⟨Nat.le_trans (Nat.add_le_add_left (by decide) _) k, fun _ => k⟩
    | true => exact ⟨k, fun z => nomatch z⟩
  show a.brk + b.brk + 2 + 5 ≤ 7 * (m + n)
  have h1 := h.1
  have h2 := h.2
  have k1 := k.1
  have k2 := k.2
  rcases e with e | e
  · have := h2 e; omega
  · have := k2 e; omega
theorem brB.twoT {w : Str} {a b : Tr} {m n : Nat} (h : brB true a.brk m) (k : brB true b.brk n) : brB true (Tr.two w a b).brk (m + n) := by
  have h : a.brk + 3 ≤ 7 * m := h
  have k : b.brk + 3 ≤ 7 * n := k
  show a.brk + b.brk + 2 + 3 ≤ 7 * (m + n)
  omega
theorem brB.twoL {w : Str} {a b : Tr} {m n : Nat} (h : brB false a.brk m) (k : brB false b.brk n) : brB true (Tr.two w a b).brk (m + n) := by
  have h : a.brk + 5 ≤ 7 * m := h
  have k : b.brk + 5 ≤ 7 * n := k
  show a.brk + b.brk + 2 + 3 ≤ 7 * (m + n)
  omega
theorem brB.notand {w v : Str} {a b : Tr} {m n : Nat} (h : brB true a.brk m) (k : brB true b.brk n) : brB true (Tr.one v (Tr.two w a b)).brk (m + n) := by
  have h : a.brk + 3 ≤ 7 * m := h
  have k : b.brk + 3 ≤ 7 * n := k
  show a.brk + b.brk + 2 + 1 + 3 ≤ 7 * (m + n)
  omega
theorem brB.mono {b : Bool} {k m n : Nat} (h : brB b k m) (l : m ≤ n) : brB b k n := by
  cases b with
  | false =>
    have h : k + 5 ≤ 7 * m := h
    show k + 5 ≤ 7 * n
    omega
  | true =>
    have h : k + 3 ≤ 7 * m := h
    show k + 3 ≤ 7 * n
    omega
/-- .. of at most n leaves -/
structure Gd (ks ms : List Str) (b : Bool) (n : Nat) (t : Tr) : Prop where
  wf : t.wf ks ms b
  dep : t.dep ≤ 3 * n + (if b then 1 else 0) - (if b then 0 else 1)
  st : (t.told "step").length ≤ 2 * n
  tm : (t.told "marked").length ≤ n
  pos : 1 ≤ n
  br : brB b t.brk n
theorem okw_of {w : Str} (h : w ∈ ([Str.ofString "here", Str.ofString "always", Str.ofString "found", Str.ofString "not", Str.ofString "then", Str.ofString "or", Str.ofString "and", Str.ofString "when", Str.ofString "same", Str.ofString "xor"] : List Str)) : Tr.okw w := by
  unfold Tr.okw
  have key : ∀ v ∈ ([Str.ofString "here", Str.ofString "always", Str.ofString "found", Str.ofString "not", Str.ofString "then", Str.ofString "or", Str.ofString "and", Str.ofString "when", Str.ofString "same", Str.ofString "xor"] : List Str), v ≠ Str.ofString "step" ∧ v ≠ Str.ofString "marked" ∧ PyData.strOk v = true := by decide +kernel
  exact key w h
theorem Tr.wf_ok {ks ms : List Str} (hk : ∀ k ∈ ks, PyData.strOk k = true) (hm : ∀ k ∈ ms, PyData.strOk k = true) : ∀ (t : Tr) (b : Bool), t.wf ks ms b → t.ok := by
  intro t
  induction t with
  | z w => intro b h; cases b <;> (obtain rfl := (show w = _ from h); exact okw_of (by simp))
  | st k d => intro b h; cases b with
    | false => exact hk k h.1
    | true => exact h.elim
  | mk k => intro b h; cases b with
    | false => exact h.elim
    | true => exact hm k h
  | one w a ih => intro b h; cases b with
    | false => exact h.elim
    | true => rcases h with ⟨rfl, h⟩ | ⟨rfl, h⟩ <;> exact ⟨okw_of (by simp), ih _ h⟩
  | two w a b iha ihb => intro c h; cases c with
    | false => rcases h with ⟨rfl | rfl | rfl, h1, h2⟩ | ⟨rfl, h1, h2⟩ <;> exact ⟨okw_of (by simp), iha _ h1, ihb _ h2⟩
    | true => rcases h with ⟨rfl, h1, h2⟩ | ⟨rfl | rfl | rfl, h1, h2⟩ <;> exact ⟨okw_of (by simp), iha _ h1, ihb _ h2⟩
theorem dp_strs {K : PySem.W.Frag} {H : Hp} : ∀ ks : List Str, DpAll K H (ks.map V.str) (ks.map PyData.str)
  | [] => .nil
  | k :: r => .cons (.str k) (dp_strs r)
theorem shaped_strs {ks : List Str} (h : ∀ k ∈ ks, PyData.strOk k = true) : SeqAt.shaped (.list (ks.map PyData.str)) = true := by
  have a : ∀ ks : List Str, (∀ k ∈ ks, PyData.strOk k = true) → PyData.canLayAll0 (ks.map PyData.str) = true := by
    intro ks
    induction ks with
    | nil => intro _; rfl
    | cons k r ih =>
      intro h
      simp [PyData.canLayAll0, PyData.canLay0]
      exact ⟨h k (.head _), ih fun x hx => h x (.tail _ hx)⟩
  have b : ∀ ks : List Str, PyData.depthAll (ks.map PyData.str) = 0 := by
    intro ks
    induction ks with
    | nil => rfl
    | cons k r ih => simp [PyData.depthAll, PyData.depth, ih]
  unfold SeqAt.shaped
  simp [PyData.canLay0, PyData.depth, a ks h, b ks]
/-- names == [] -/
theorem wo_eqE {Γ : Gm} {H : Hp} {Q : VK} {p q : Addr} {ks : List Str} (hp : SqL Γ.K H p (ks.map V.str)) (hq : SqL Γ.K H q []) (ok : ∀ k ∈ ks, PyData.strOk k = true) (k : Q (.bl ks.isEmpty) H) : WO Γ (compareOp .Eq) (.ref p) (.ref q) H Q :=
  ⟨rEqD Γ.K, fun X g => (by have := op_eqD (X := X) (Nat.lt_of_le_of_lt (Nat.le_refl _) g.hu64); rw [g.K] at this; exact this), _, _, .lst hp (dp_strs ks), .lst hq .nil, shaped_strs ok, by decide, by
    have e : PyData.eqv (.list (ks.map PyData.str)) (.list []) = ks.isEmpty := by cases ks <;> simp [PyData.eqv, PyData.eqvAll]
    rw [e]; exact k⟩
end G
/-! ascending texts; what stands in a tree's tuple; equality of lists of trees -/
namespace G
open PySem PySem.Spec PyProof.Rows L2
def leS (a b : Str) : Prop := ¬ b.cps.toList < a.cps.toList
theorem leS_of {a b : Str} (h : ltCps b.cps.toList a.cps.toList = false) : leS a b := by
  rw [ltCps_eq] at h
  exact of_decide_eq_false h
theorem leS_trans {a b c : Str} (h : leS a b) (k : leS b c) : leS a c := List.le_trans (l₁ := a.cps.toList) h k
theorem str_ext {a b : Str} (h : a.cps.toList = b.cps.toList) : a = b := by
  obtain ⟨x⟩ := a
  obtain ⟨y⟩ := b
  congr 1
  exact Array.toList_inj.mp h
theorem leS_anti {a b : Str} (h : leS a b) (k : leS b a) : a = b := str_ext (List.le_antisymm h k)
theorem rising_le : ∀ {x : Str} {r : List Str}, risingS x r = true → ∀ z ∈ r, leS x z
  | _, [], _, z, hz => nomatch hz
  | x, y :: r, h, z, hz => by
    simp only [risingS, Bool.and_eq_true, Bool.not_eq_true'] at h
    have h1 := leS_of h.1
    cases hz with
    | head => exact h1
    | tail _ hz => exact leS_trans h1 (rising_le h.2 z hz)
theorem rising_pw : ∀ {x : Str} {r : List Str}, risingS x r = true → (x :: r).Pairwise leS
  | _, [], _ => List.pairwise_singleton _ _
  | x, y :: r, h => by
    have h' := h
    simp only [risingS, Bool.and_eq_true, Bool.not_eq_true'] at h
    exact List.pairwise_cons.mpr ⟨rising_le h', rising_pw h.2⟩
theorem sorted_pw : ∀ {l : List Str}, sortedS l = true → l.Pairwise leS
  | [], _ => .nil
  | _ :: _, h => rising_pw h
/-- two ascending lists of the same texts, each once -/
theorem asc_eq {xs ys : List Str} (hx : xs.Pairwise leS) (hy : ys.Pairwise leS) (nx : xs.Nodup) (ny : ys.Nodup) (h : ∀ z, z ∈ xs ↔ z ∈ ys) : xs = ys :=
  ((List.perm_ext_iff_of_nodup nx ny).mpr h).eq_of_pairwise (fun _ _ _ _ => leS_anti) hx hy
theorem perm_sorted_eq {xs ys : List Str} (hx : sortedS xs = true) (hy : sortedS ys = true) (p : xs.Perm ys) : xs = ys :=
  p.eq_of_pairwise (fun _ _ _ _ => leS_anti) (sorted_pw hx) (sorted_pw hy)
section
variable {K : PySem.W.Frag} {H : Hp}
/-- an item of the tuple: no tree, or the next tree -/
theorem Rest.at2 {r : List V} {ts : List Tr} (h : Rest K H r ts) : ∀ {i : Nat} {x : V}, r[i]? = some x → (((∃ z, x = .str z) ∨ ∃ j, x = .int j)) ∨ ∃ p t, x = .ref p ∧ TrP K H t p ∧ ts[(r.take i).countP isRef]? = some t := by
  induction h with
  | nil => intro i x e; simp at e
  | str _ ih => intro i x e; cases i with
    | zero => simp at e; exact .inl (.inl ⟨_, e.symm⟩)
    | succ i => simpa [isRef] using ih e
  | int _ ih => intro i x e; cases i with
    | zero => simp at e; exact .inl (.inr ⟨_, e.symm⟩)
    | succ i => simpa [isRef] using ih e
  | ref hp _ ih => intro i x e; cases i with
    | zero => simp at e; exact .inr ⟨_, _, e.symm, hp, by simp⟩
    | succ i =>
      rcases ih e with h | ⟨q, s, e2, h2, h3⟩
      · exact .inl h
      · refine .inr ⟨q, s, e2, h2, ?_⟩
        rw [List.take_succ_cons, List.countP_cons_of_pos rfl]
        exact h3
theorem Rest.cnt {r : List V} {ts : List Tr} (h : Rest K H r ts) : r.countP isRef = ts.length := by
  induction h with
  | nil => rfl
  | str _ ih => simpa [isRef] using ih
  | int _ ih => simpa [isRef] using ih
  | ref _ _ ih => rw [List.countP_cons_of_pos rfl, ih, List.length_cons]
theorem take_cnt {r : List V} {i : Nat} {x : V} (h : r[i]? = some x) : (r.take (i + 1)).countP isRef = (r.take i).countP isRef + if isRef x then 1 else 0 := by
  rw [List.take_add_one, h, List.countP_append]
  cases x <;> simp [isRef]
/-- the names of the first n trees within -/
def Tr.toldN (w : Str) (t : Tr) (n : Nat) : List Str := t.top w ++ ((t.subs.take n).map (Tr.told w)).flatten
theorem Tr.toldN_0 (w : Str) (t : Tr) : t.toldN w 0 = t.top w := by simp [Tr.toldN]
theorem Tr.toldN_s {w : Str} {t s : Tr} {n : Nat} (h : t.subs[n]? = some s) : t.toldN w (n + 1) = t.toldN w n ++ s.told w := by
  unfold Tr.toldN
  rw [List.take_add_one, h]
  simp
theorem Tr.toldN_all (w : Str) (t : Tr) : t.toldN w t.subs.length = t.told w := by
  unfold Tr.toldN
  rw [List.take_length, Tr.told_all]
theorem Tr.toldN_le (w : Str) (t : Tr) (n : Nat) : (t.toldN w n).length ≤ (t.told w).length := Tr.told_take w t n
theorem Tr.told_steps : ∀ t : Tr, (t.told "step").length = t.steps
  | .z _ => rfl
  | .st k d => by simp [Tr.told, Tr.steps]
  | .mk k => by
    show (if (Str.ofString "marked") = (Str.ofString "step") then [k] else []).length = 0
    rw [if_neg (by decide +kernel)]
    rfl
  | .one _ a => Tr.told_steps a
  | .two _ a b => by
    show (a.told "step" ++ b.told "step").length = a.steps + b.steps
    rw [List.length_append, Tr.told_steps a, Tr.told_steps b]
/-- names and names are equal -/
theorem eqvAll_strs : ∀ xs ys : List Str, PyData.eqvAll (xs.map PyData.str) (ys.map PyData.str) = decide (xs = ys)
  | [], [] => by simp [PyData.eqvAll]
  | [], _ :: _ => by simp [PyData.eqvAll]
  | _ :: _, [] => by simp [PyData.eqvAll]
  | x :: xs, y :: ys => by
    have ih := eqvAll_strs xs ys
    have e : PyData.eqvAll ((x :: xs).map PyData.str) ((y :: ys).map PyData.str) = (decide (x = y) && decide (xs = ys)) := by
      rw [← ih]
      simp only [List.map_cons, PyData.eqvAll, PyData.eqv]
      congr 1
    rw [e]
    by_cases h : x = y <;> by_cases k : xs = ys <;> simp [h, k]
theorem shaped_strT {ks : List Str} (h : ∀ k ∈ ks, PyData.strOk k = true) : SeqAt.shaped (.tuple (ks.map PyData.str)) = true := by
  have := shaped_strs h
  unfold SeqAt.shaped at this ⊢
  simpa [PyData.canLay0, PyData.depth] using this
theorem wo_eqST {Γ : Gm} {Q : VK} {p q : Addr} {xs ys : List Str} (hp : SqT Γ.K H p (xs.map V.str)) (hq : SqT Γ.K H q (ys.map V.str)) (ox : ∀ k ∈ xs, PyData.strOk k = true) (oy : ∀ k ∈ ys, PyData.strOk k = true) (k : Q (.bl (decide (xs = ys))) H) : WO Γ (compareOp .Eq) (.ref p) (.ref q) H Q :=
  ⟨rEqD Γ.K, fun X g => (by have := op_eqD (X := X) (Nat.lt_of_le_of_lt (Nat.le_refl _) g.hu64); rw [g.K] at this; exact this), _, _, .tup hp (dp_strs xs), .tup hq (dp_strs ys), shaped_strT ox, shaped_strT oy, by
    have e : PyData.eqv (.tuple (xs.map PyData.str)) (.tuple (ys.map PyData.str)) = decide (xs = ys) := by rw [tk, eqvAll_strs]
    rw [e]; exact k⟩
/-- lists of trees are equal -/
theorem eqvAll_trs : ∀ xs ys : List Tr, PyData.eqvAll (xs.map Tr.data) (ys.map Tr.data) = decide (xs = ys)
  | [], [] => by simp [PyData.eqvAll]
  | [], _ :: _ => by simp [PyData.eqvAll]
  | _ :: _, [] => by simp [PyData.eqvAll]
  | x :: xs, y :: ys => by
    have ih := eqvAll_trs xs ys
    have e : PyData.eqvAll ((x :: xs).map Tr.data) ((y :: ys).map Tr.data) = (decide (x = y) && decide (xs = ys)) := by
      rw [← ih, ← Tr.eqv x y]
      simp only [List.map_cons, PyData.eqvAll]
    rw [e]
    by_cases h : x = y <;> by_cases k : xs = ys <;> simp [h, k]
theorem TrPs.dp {ts : List Tr} {ps : List Addr} (h : TrPs K H ts ps) : DpAll K H (ps.map V.ref) (ts.map Tr.data) := by
  induction h with
  | nil => exact .nil
  | cons a _ ih => exact .cons a.dp ih
theorem shaped_trs {ts : List Tr} (o : ∀ t ∈ ts, t.ok) (d : ∀ t ∈ ts, t.dep ≤ 63) : SeqAt.shaped (.list (ts.map Tr.data)) = true := by
  have a : ∀ ts : List Tr, (∀ t ∈ ts, t.ok) → PyData.canLayAll0 (ts.map Tr.data) = true := by
    intro ts
    induction ts with
    | nil => intro _; rfl
    | cons k r ih =>
      intro h
      simp only [List.map_cons, PyData.canLayAll0, Bool.and_eq_true]
      exact ⟨Tr.lay (h k (.head _)), ih fun x hx => h x (.tail _ hx)⟩
  have b : ∀ ts : List Tr, (∀ t ∈ ts, t.dep ≤ 63) → PyData.depthAll (ts.map Tr.data) ≤ 63 := by
    intro ts
    induction ts with
    | nil => intro _; simp [PyData.depthAll]
    | cons k r ih =>
      intro h
      have h1 := h k (.head _)
      have h2 := ih fun x hx => h x (.tail _ hx)
      simp only [List.map_cons, PyData.depthAll, Tr.depth]
      omega
  have h1 := a ts o
  have h2 := b ts d
  unfold SeqAt.shaped
  simp [PyData.canLay0, PyData.depth, h1]
  omega
theorem wo_eqTs {Γ : Gm} {Q : VK} {p q : Addr} {ss ts : List Tr} {ps qs : List Addr} (hp : SqL Γ.K H p (ps.map V.ref)) (hq : SqL Γ.K H q (qs.map V.ref)) (hs : TrPs Γ.K H ss ps) (ht : TrPs Γ.K H ts qs) (os : ∀ t ∈ ss, t.ok) (ot : ∀ t ∈ ts, t.ok) (ds : ∀ t ∈ ss, t.dep ≤ 63) (dt : ∀ t ∈ ts, t.dep ≤ 63)
    (k : Q (.bl (decide (ss = ts))) H) : WO Γ (compareOp .Eq) (.ref p) (.ref q) H Q :=
  ⟨rEqD Γ.K, fun X g => (by have := op_eqD (X := X) (Nat.lt_of_le_of_lt (Nat.le_refl _) g.hu64); rw [g.K] at this; exact this), _, _, .lst hp hs.dp, .lst hq ht.dp, shaped_trs os ds, shaped_trs ot dt, by
    have e : PyData.eqv (.list (ss.map Tr.data)) (.list (ts.map Tr.data)) = decide (ss = ts) := by
      have : PyData.eqv (.list (ss.map Tr.data)) (.list (ts.map Tr.data)) = PyData.eqvAll (ss.map Tr.data) (ts.map Tr.data) := by simp [PyData.eqv]
      rw [this, eqvAll_trs]
    rw [e]; exact k⟩
/-- x not in xs, both of names -/
theorem wo_notInS {Γ : Gm} {Q : VK} {z : Str} {p : Addr} {xs : List Str} (hp : SqL Γ.K H p (xs.map V.str)) (k : Q (.bl (!decide (z ∈ xs))) H) : WO Γ (compareOp .NotIn) (.str z) (.ref p) H Q :=
  ⟨rIn Γ.K true, fun X g => (by have := op_notIn_seq (X := X); rw [g.K] at this; exact this), p, xs.map V.str, rfl, .inl hp, rfl, by rw [List.all_map]; exact List.all_eq_true.mpr fun _ _ => rfl, by
    have e : inV (.str z) (xs.map V.str) = decide (z ∈ xs) := by
      unfold inV
      rw [List.any_map]
      by_cases h : z ∈ xs
      · rw [decide_eq_true h]
        exact List.any_eq_true.mpr ⟨z, h, by simp [eqV]⟩
      · rw [decide_eq_false h, List.any_eq_false]
        intro y hy e
        simp [eqV] at e
        exact h (e ▸ hy)
    rw [if_pos rfl, e]
    exact k⟩
end
end G
namespace G
open PySem PySem.Spec PyProof.Rows L2
/-- a comprehension's scope within another one's -/
def relS (scope S : Scope) : Scope := { scope with names := scope.names.map fun (n, k) => if (k == .free && S.kind == .function && S.names.lookup n == some .cell) then (n, .cell) else (n, k) }
theorem blkIn {N : List Str} {S : Scope} {X : Cx} {s : Shared} {H : Hp} {scope sc2 : Scope} {C : Addr} {cl : List (Str × Addr)} {fp : List Addr} {own : List (Str × Nat)} (e : X.N = N) (e2 : X.env.scope = S) (h : blkC N (relS scope S) sc2 own = true) :
    BlkOk (X.blk s H scope (compEnvC scope cl C X.env) fp).N (X.blk s H scope (compEnvC scope cl C X.env) fp).env.scope sc2 own := by
  have h' : blkC X.N (relabel scope X.env) sc2 own = true := by rw [e]; subst e2; exact h
  exact blkOk_by h'
abbrev E1 (Γ : Gm) : Hv := ⟨Γ.K, fun _ => False⟩
theorem Tr.told_ok : ∀ {t : Tr}, t.ok → ∀ (w y : Str), y ∈ t.told w → PyData.strOk y = true
  | .z _, _, w, y, h => nomatch h
  | .st k d, ok, w, y, h => by
    have h2 : y ∈ (if (Str.ofString "step") = w then [k] else []) := h
    split at h2
    · rw [List.mem_singleton.mp h2]; exact ok
    · cases h2
  | .mk k, ok, w, y, h => by
    have h2 : y ∈ (if (Str.ofString "marked") = w then [k] else []) := h
    split at h2
    · rw [List.mem_singleton.mp h2]; exact ok
    · cases h2
  | .one _ a, ok, w, y, h => Tr.told_ok (t := a) ok.2 w y h
  | .two _ a b, ok, w, y, h => by
    have h2 : y ∈ a.told w ++ b.told w := h
    rcases List.mem_append.mp h2 with h | h
    · exact Tr.told_ok ok.2.1 w y h
    · exact Tr.told_ok ok.2.2 w y h
section
variable {E : Hv} {H0 H : Hp} {S0 : List Addr} {F : List (PF E)} {R : List (RS E)} {p : Addr} {o : HO}
/-- one more list that is read -/
theorem SS.ro (s : SS E H0 S0 H F R) (h : H p = some o) (n : ¬ Imm E.MC o) (new : p ∉ fps R) : SS E H0 S0 H F (cellR p o true :: R) where
  f := s.f
  r := fun x hx => by cases hx with
    | head => exact h
    | tail _ hx => exact s.r x hx
  nd := List.nodup_cons.mpr ⟨new, s.nd⟩
  tr := fun a ha => by
    rcases List.mem_cons.mp ha with rfl | ha
    · exact ⟨o, h, n⟩
    · exact s.tr a ha
  fr := s.fr
  ow := fun a ha => s.ow a ha
end
end G
/-! powers and ways back of trees; Looks and Tests beside one another -/
namespace G
open PySem PySem.Spec PyProof.Rows L2
theorem Tr.grp_dep (t : Tr) : ∀ n, (t.grp n).dep ≤ t.dep + n
  | 0 => by
    have : 1 ≤ t.dep := by cases t <;> simp [Tr.dep]
    simp [Tr.grp, Tr.dep]; omega
  | 1 => by simp [Tr.grp]
  | n + 2 => by
    have := Tr.grp_dep t (n + 1)
    simp only [Tr.grp, Tr.dep]
    omega
theorem Tr.grp_ok {t : Tr} (o : t.ok) : ∀ n, (t.grp n).ok
  | 0 => okw_of (by simp)
  | 1 => o
  | n + 2 => ⟨okw_of (by simp), Tr.grp_ok o (n + 1), o⟩
theorem Tr.grp_walk {t : Tr} (w : t.walk) : ∀ n, (t.grp n).walk
  | 0 => rfl
  | 1 => w
  | n + 2 => ⟨rfl, Tr.grp_walk w (n + 1), w⟩
theorem Tr.grp_steps (t : Tr) : ∀ n, (t.grp n).steps = n * t.steps
  | 0 => by simp [Tr.grp, Tr.steps]
  | 1 => by simp [Tr.grp]
  | n + 2 => by
    have := Tr.grp_steps t (n + 1)
    simp only [Tr.grp, Tr.steps, this, Nat.add_mul]
    omega
theorem Tr.back_steps : ∀ t : Tr, t.back.steps = t.steps
  | .z _ => rfl
  | .st _ _ => rfl
  | .mk _ => rfl
  | .one _ _ => rfl
  | .two _ a b => by simp only [Tr.back, Tr.steps, Tr.back_steps a, Tr.back_steps b]; omega
theorem Tr.back_back : ∀ t : Tr, t.back.back = t
  | .z _ => rfl
  | .st _ _ => by simp [Tr.back]
  | .mk _ => rfl
  | .one _ _ => rfl
  | .two _ a b => by simp only [Tr.back, Tr.back_back a, Tr.back_back b]
theorem Tr.back_walk : ∀ {t : Tr}, t.walk → t.back.walk
  | .z _, h => h
  | .st _ _, h => h
  | .two _ a b, h => ⟨h.1, Tr.back_walk h.2.2, Tr.back_walk h.2.1⟩
theorem Tr.back_dep : ∀ t : Tr, t.back.dep = t.dep
  | .z _ => rfl
  | .st _ _ => rfl
  | .mk _ => rfl
  | .one _ _ => rfl
  | .two _ a b => by simp only [Tr.back, Tr.dep, Tr.back_dep a, Tr.back_dep b]; omega
theorem Tr.back_ok : ∀ {t : Tr}, t.ok → t.back.ok
  | .z _, h => h
  | .st _ _, h => h
  | .mk _, h => h
  | .one _ _, h => h
  | .two _ a b, h => ⟨h.1, Tr.back_ok h.2.2, Tr.back_ok h.2.1⟩
theorem Tr.walk_ok {ks : List Str} (h : ∀ k ∈ ks, PyData.strOk k = true) {t : Tr} {b : Bool} {ms : List Str} (hm : ∀ k ∈ ms, PyData.strOk k = true) (w : t.wf ks ms b) : t.ok := Tr.wf_ok h hm t b w
/-- no Look's tree is a Test's -/
theorem Tr.wf_ne {ks ms ks' ms' : List Str} : ∀ {t : Tr}, t.wf ks ms false → t.wf ks' ms' true → False
  | .z w, h, k => by
    have h : w = "here" := h
    have k : w = "always" := k
    exact absurd (h.symm.trans k) (by decide +kernel)
  | .st _ _, h, k => k
  | .mk _, h, k => h
  | .one _ _, h, k => h
  | .two w a b, h, k => by
    rcases h with ⟨h, ha, _⟩ | ⟨h, ha, _⟩
    · rcases k with ⟨k, _, _⟩ | ⟨_, ka, _⟩
      · rcases h with h | h | h <;> rw [k] at h <;> exact absurd h (by decide +kernel)
      · exact Tr.wf_ne ha ka
    · rcases k with ⟨k, _, _⟩ | ⟨k, _, _⟩
      · rw [k] at h; exact absurd h (by decide +kernel)
      · rcases k with k | k | k <;> rw [k] at h <;> exact absurd h (by decide +kernel)
theorem Gd.mono {ks ms : List Str} {b : Bool} {n m : Nat} {t : Tr} (g : Gd ks ms b n t) (h : n ≤ m) : Gd ks ms b m t :=
  ⟨g.wf, by have := g.dep; have := g.pos; cases b <;> simp only [Bool.false_eq_true, if_false, if_true] at * <;> omega, by have := g.st; omega, by have := g.tm; omega, by have := g.pos; omega, g.br.mono h⟩
theorem sub_nil {α : Type} {F : List α} : ∀ y ∈ ([] : List α), y ∈ F := fun _ h => nomatch h
theorem sub_cons {α : Type} {x : α} {F' F : List α} (h : x ∈ F) (k : ∀ y ∈ F', y ∈ F) : ∀ y ∈ x :: F', y ∈ F := fun y hy => by
  cases hy with
  | head => exact h
  | tail _ hy => exact k y hy
section
variable {E : Hv}
theorem fps_subl {R R' : List (RS E)} (h : R'.Sublist R) : (fps R').Sublist (fps R) := by
  induction h with
  | slnil => exact .slnil
  | cons r _ ih => exact ih.trans (List.sublist_append_right _ _)
  | cons_cons r _ ih => exact (List.Sublist.refl _).append ih
theorem ows_subl {R R' : List (RS E)} (h : R'.Sublist R) : (ows R').Sublist (ows R) := by
  induction h with
  | slnil => exact .slnil
  | cons r _ ih => exact ih.trans (List.sublist_append_right _ _)
  | cons_cons r _ ih => exact (List.Sublist.refl _).append ih
/-- fewer things -/
theorem SS.subl {H0 H : Hp} {S0 : List Addr} {F : List (PF E)} {R R' : List (RS E)} (s : SS E H0 S0 H F R) (h : R'.Sublist R) : SS E H0 S0 H F R' :=
  ⟨s.f, fun x hx => s.r x (h.subset hx), (fps_subl h).nodup s.nd, fun a ha => s.tr a ((fps_subl h).subset ha), s.fr, fun a ha => s.ow a ((ows_subl h).subset ha)⟩
end
/-- what the text has of Look and Test -/
structure KE (Γ : Gm) (CL CT : Addr) : Prop where
  L : KF Γ "Look" CL
  T : KF Γ "Test" CT
  nLL : PySem.W.notFirst Γ.K CL (.ref CL) = true
  nLT : PySem.W.notFirst Γ.K CL (.ref CT) = true
  nTL : PySem.W.notFirst Γ.K CT (.ref CL) = true
  nTT : PySem.W.notFirst Γ.K CT (.ref CT) = true
  nTt : PySem.W.notFirst Γ.K CT (.type "tuple") = true
  LT : PySem.W.kitOne Γ.K (.ref CL) (.ref CT) = some false
  TL : PySem.W.kitOne Γ.K (.ref CT) (.ref CL) = some false
/-- .. of powers -/
structure KPw (Γ : Gm) (C : Addr) : Prop where
  r : ∃ rc, PySem.W.findIn Γ.K (.ref C) (dunderR Operator.Pow.info.2) = some rc ∧ (rc = none ∨ ∃ g : Addr, rc = some (.ref g))
  a : ∃ fo, PySem.W.findIn Γ.K (.type "int") (PySem.dunder Operator.Pow.info.2) = some fo
  b : ∃ ro, PySem.W.findIn Γ.K (.type "int") (dunderR Operator.Pow.info.2) = some ro
  s : PySem.W.subIn Γ.K (.type "int") (.ref C) = some false
/-- .. of >>= -/
structure KIn (Γ : Gm) (C : Addr) : Prop where
  i : ∃ cd, PySem.W.clsIn Γ.K C = some cd ∧ ∀ c ∈ cd.mro, PySem.W.findIn Γ.K c (dunderI Operator.RShift.info.2) = some none
end G
/-! dicts by values; defs with *args, methods called with keywords -/
namespace G
open PySem PySem.Spec PyProof.Rows L2
section
variable {Γ : Gm} {X : Cx} {H : Hp} {Q : VK} {a : Addr} {y v : V} {o : Option V}
theorem ix_dk (hu : X.A.units + 1 < cLine) : IxR X (fun x y H Q => ∃ a v, x = .ref a ∧ DGet H a y (some v) ∧ Q v H) := by
  intro value slice pins s σ H x y v u Q I rx ry ⟨a, w, ex, g, q⟩ hs
  subst ex
  obtain rfl : v = Value.ref a := rx
  exact tail_any (dict_typeIs I g) PySem.F.slot_dict_getitem.lookup (d_getItem hu I g ry fun w' s3 I3 rw' => ⟨w, H, I3, rw', q⟩) hs
theorem wx_d (g : DGet H a y (some v)) (q : Q v H) : WX Γ (.ref a) y H Q := ⟨_, fun X g => ix_dk g.hu, a, v, rfl, g, q⟩
theorem op_in_dk (hu : X.A.units + 1 < cLine) : OpR X (compareOp .In) (fun y x H Q => ∃ a o, x = .ref a ∧ DGet H a y o ∧ Q (.bl o.isSome) H) := by
  intro pins s σ H y x u v Q I ry rx ⟨a, o, ex, g, q⟩
  subst ex
  obtain rfl : v = Value.ref a := rx
  exact d_in hu I g ry fun s3 I3 => ⟨.bl o.isSome, H, I3, rfl, q⟩
theorem op_ni_dk (hu : X.A.units + 1 < cLine) : OpR X (compareOp .NotIn) (fun y x H Q => ∃ a o, x = .ref a ∧ DGet H a y o ∧ Q (.bl (!o.isSome)) H) := by
  intro pins s σ H y x u v Q I ry rx ⟨a, o, ex, g, q⟩
  subst ex
  obtain rfl : v = Value.ref a := rx
  exact d_notIn hu I g ry fun s3 I3 => ⟨.bl (!o.isSome), H, I3, rfl, q⟩
theorem wo_inD (g : DGet H a y o) (q : Q (.bl o.isSome) H) : WO Γ (compareOp .In) y (.ref a) H Q := ⟨_, fun X g => op_in_dk g.hu, a, o, rfl, g, q⟩
theorem wo_niD (g : DGet H a y o) (q : Q (.bl (!o.isSome)) H) : WO Γ (compareOp .NotIn) y (.ref a) H Q := ⟨_, fun X g => op_ni_dk g.hu, a, o, rfl, g, q⟩
theorem wp_d {i v : V} {Q : Hp → Prop} {H' : Hp} (h : DPut H a i v H') (q : Q H') : WP Γ (.ref a) i v H Q := ⟨_, fun X g => set_dict g.hu, a, H', rfl, h, q⟩
/-- a name among names -/
theorem inV_strs (z : Str) (xs : List Str) : inV (.str z) (xs.map V.str) = decide (z ∈ xs) := by
  unfold inV
  rw [List.any_map]
  by_cases h : z ∈ xs
  · rw [decide_eq_true h]
    exact List.any_eq_true.mpr ⟨z, h, by simp [eqV]⟩
  · rw [decide_eq_false h, List.any_eq_false]
    intro y hy e
    simp [eqV] at e
    exact h (e ▸ hy)
theorem wo_inS {z : Str} {p : Addr} {xs : List Str} (hp : SqL Γ.K H p (xs.map V.str) ∨ SqT Γ.K H p (xs.map V.str)) (k : Q (.bl (decide (z ∈ xs))) H) : WO Γ (compareOp .In) (.str z) (.ref p) H Q :=
  ⟨rIn Γ.K false, fun X g => (by have := op_in_seq (X := X); rw [g.K] at this; exact this), p, xs.map V.str, rfl, hp, rfl, by rw [List.all_map]; exact List.all_eq_true.mpr fun _ _ => rfl, by
    rw [inV_strs]
    exact k⟩
theorem wo_niS {z : Str} {p : Addr} {xs : List Str} (hp : SqL Γ.K H p (xs.map V.str) ∨ SqT Γ.K H p (xs.map V.str)) (k : Q (.bl (!decide (z ∈ xs))) H) : WO Γ (compareOp .NotIn) (.str z) (.ref p) H Q :=
  ⟨rIn Γ.K true, fun X g => (by have := op_notIn_seq (X := X); rw [g.K] at this; exact this), p, xs.map V.str, rfl, hp, rfl, by rw [List.all_map]; exact List.all_eq_true.mpr fun _ _ => rfl, by
    rw [if_pos rfl, inV_strs]
    exact k⟩
end
/-! ### methods by what they promise of all positional values, and of keywords -/
/-- a promise of positional values and the values of the keywords ks -/
def FnRk (P : Program) (w : World) (K : PySem.W.Frag) (mg : Str → Option Value) (base : Heap) (CX : CXT) (k : Nat) (f : Addr) (ks : List Str) (sp : List V → List V → Hp → VK → XK → Prop) : Prop :=
  ∀ (A : Around) (outer : List Env) (s : Shared) (H : Hp) (us ws : List Value) (vs zs : List V) (Q : VK) (E : XK), Room k A → Env0 P w K mg base A outer s H → Vals vs us → Vals zs ws → zs.length = ks.length → sp vs zs H Q E →
    codeAny (model P w) A (.call (.ref f) ⟨us, ks.zip ws⟩) (CR CX outer P w H s Q E) s
structure Mk' (Γ : Gm) (k : Nat) (C : Addr) (m : Str) (ks : List Str) (sp : List V → List V → Hp → VK → XK → Prop) : Prop where
  ex : ∃ f : Addr, FnRk Γ.P Γ.w Γ.K Γ.mg Γ.base CX0 k f ks sp ∧ Cls Γ.K C ∧ Meth Γ.K C m f
theorem run_fnRk {X : Cx} {pins : List (Addr × Obj)} {σ : L2.St} {H : Hp} {s : Shared} {k : Nat} {f : Addr} {ks : List Str} {sp : List V → List V → Hp → VK → XK → Prop} {E : XK} {Q : VK} {us ws : List Value} {vs zs : List V} (F : FnRk X.prog X.w X.K X.mg X.base CX0 k f ks sp) (hr : Room k X.A) (I : Inv X pins σ H s) (r : Vals vs us) (rz : Vals zs ws) (hl : zs.length = ks.length) (h : sp vs zs H Q E) :
    wpAny (model X.prog X.w) X.A (call (.ref f) us (ks.zip ws)) (EP X pins σ Q) X.xe s := by
  refine wpAny_call (codeAny_mono (F X.A X.stack s H us ws vs zs Q E hr I.env0 r rz hl h) fun r s' hq => ?_)
  cases r with
  | error e => exact (passE (X := X) (E := E)) pins σ H s e s' I hq
  | ok fl =>
    cases fl with
    | ret u => exact I.after hq
    | next => exact False.elim hq
    | brk => exact False.elim hq
    | cont => exact False.elim hq
/-- o.m(.., k = ..): t the positional values, tk the keywords' -/
def tMk (Γ : Gm) (m : Str) (ks : List Str) (ta : TE) (t tk : TA) : TE := fun σ H Q => ta σ H fun x H1 => ∃ (n : Nat) (C a dx : Addr) (fs : List (Str × V)) (sp : List V → List V → Hp → VK → XK → Prop) (E : XK), Mk' Γ n C m ks sp ∧ n ≤ Γ.lv ∧ x = .ref a ∧ H1 a = some (.ins C dx fs) ∧ fs.lookup m = none ∧
  t σ H1 fun vs H2 => tk σ H2 fun zs H3 => zs.length = ks.length ∧ sp (x :: vs) zs H3 Q E
section
variable {Γ : Gm} {X : Cx} {m : Str} {o e : Expr} {es : List Expr} {kws : List Keyword} {ks : List Str} {ta : TE} {t tk : TA} {pos apos : Pos}
theorem pe_mk {pl : Sem Bool} (g : Good Γ X) (ho : PE X o ta) (ha : PA X (e :: es) t) (hkw : PK X kws tk) (hall : (backToKw pos (keywordEach kws X.env)).all (·.1.isSome) = true := by rfl) (hks : (backToKw pos (keywordEach kws X.env)).filterMap (·.1) = ks := by rfl)
    (he : starEach (e :: es) X.env = (false, eval e X.env) :: starEach es X.env := by rfl)
    (hpl : ((backTo pos (starEach (e :: es) X.env)).any (·.1) || (backToKw pos (keywordEach kws X.env)).any (·.1.isNone)) = false := by rfl)
    (ht : eval (.Call (.Attribute o m apos) (e :: es) kws pos) X.env = (do
      let ov ← eval o X.env
      standAt apos.atName
      let (f, first) ← holding [ov] (getMethod ov m pl)
      callWith pos f first (backTo pos (starEach (e :: es) X.env)) (backToKw pos (keywordEach kws X.env))) := by rfl) :
    PE X (.Call (.Attribute o m apos) (e :: es) kws pos) (tMk Γ m ks ta t tk) := by
  refine ⟨fun pins s σ H Q I h => ?_⟩
  refine PySem.W.methodCall_KW (pl := pl) (thn (ho.run pins s σ H _ I h) fun u s1 ⟨x, H1, I1, rx, n, C, a, dx, fs, sp, E, M, hn, ex, ea, l, q⟩ => ?_) ht
  subst ex
  obtain rfl : u = Value.ref a := rx
  obtain ⟨P, w, K, mg, base, lv⟩ := Γ
  obtain ⟨h1, h2, h3, h4, h5, _, hr⟩ := g
  simp only at h1 h2 h3 h4 h5 hr
  subst h1 h2 h3 h4 h5
  obtain ⟨f, F, c, hm⟩ := M.ex
  refine getmeth_ok I1 ea c hm l ?_
  refine PySem.W.callWith_KW (first := [.ref a]) (h₀ := X.base) I1.ok.mod.kin hm.kp hall (thn (ha.run pos pins s1 σ H1 _ I1 q) fun us s2 ⟨vs, H2, I2, r, q2⟩ => ?_) hpl he
  refine thn (hkw.run pos pins s2 σ H2 _ I2 q2) fun ws s3 ⟨zs, H3, I3, rz, lz, q3⟩ => ⟨I3.kIn, ?_⟩
  rw [hks]
  exact run_fnRk (us := .ref a :: us) (vs := .ref a :: vs) F (hr.mono hn) I3 (.cons rfl r) rz lz q3
theorem pe_mk0 {pl : Sem Bool} (g : Good Γ X) (ho : PE X o ta) (hkw : PK X kws tk) (hall : (backToKw pos (keywordEach kws X.env)).all (·.1.isSome) = true := by rfl) (hks : (backToKw pos (keywordEach kws X.env)).filterMap (·.1) = ks := by rfl)
    (hpl : ((backTo pos (starEach [] X.env)).any (·.1) || (backToKw pos (keywordEach kws X.env)).any (·.1.isNone)) = false := by rfl)
    (ht : eval (.Call (.Attribute o m apos) [] kws pos) X.env = (do
      let ov ← eval o X.env
      standAt apos.atName
      let (f, first) ← holding [ov] (getMethod ov m pl)
      callWith pos f first (backTo pos (starEach [] X.env)) (backToKw pos (keywordEach kws X.env))) := by rfl) :
    PE X (.Call (.Attribute o m apos) [] kws pos) (tMk Γ m ks ta tNil tk) := by
  refine ⟨fun pins s σ H Q I h => ?_⟩
  refine PySem.W.methodCall_KW (pl := pl) (thn (ho.run pins s σ H _ I h) fun u s1 ⟨x, H1, I1, rx, n, C, a, dx, fs, sp, E, M, hn, ex, ea, l, q⟩ => ?_) ht
  subst ex
  obtain rfl : u = Value.ref a := rx
  obtain ⟨P, w, K, mg, base, lv⟩ := Γ
  obtain ⟨h1, h2, h3, h4, h5, _, hr⟩ := g
  simp only at h1 h2 h3 h4 h5 hr
  subst h1 h2 h3 h4 h5
  obtain ⟨f, F, c, hm⟩ := M.ex
  refine getmeth_ok I1 ea c hm l ?_
  refine PySem.W.callWith_KW0 (first := [.ref a]) (h₀ := X.base) I1.ok.mod.kin hm.kp hall ?_ hpl
  refine thn (hkw.run pos pins s1 σ H1 _ I1 q) fun ws s3 ⟨zs, H3, I3, rz, lz, q3⟩ => ⟨I3.kIn, ?_⟩
  rw [hks]
  exact run_fnRk (us := [.ref a]) (vs := [.ref a]) F (hr.mono hn) I3 (.cons rfl .nil) rz lz q3
end
end G
namespace G
open PySem PySem.Spec PyProof.Rows L2 StX
/-! ### def f(self, .., *rest) and def f(self, *rest, x=d) -/
theorem FnR.k {P : Program} {w : World} {K : PySem.W.Frag} {mg : Str → Option Value} {base : Heap} {CX : CXT} {k : Nat} {f : Addr} {sp : Sp} (F : FnR P w K mg base CX k f sp) : FnRk P w K mg base CX k f [] (fun vs _ H Q E => sp vs H Q E) :=
  fun A outer s H us ws vs zs Q E hr e0 r rz hl h => F A outer s H us vs Q E hr e0 r h
theorem FnRk.imp {P : Program} {w : World} {K : PySem.W.Frag} {mg : Str → Option Value} {base : Heap} {CX : CXT} {j k : Nat} {f : Addr} {ks : List Str} {sp sp' : List V → List V → Hp → VK → XK → Prop} (F : FnRk P w K mg base CX k f ks sp) (h : ∀ vs zs H Q E, sp' vs zs H Q E → sp vs zs H Q E) (hk : k ≤ j) : FnRk P w K mg base CX j f ks sp' :=
  fun A outer s H us ws vs zs Q E hr e0 r rz hl q => F A outer s H us ws vs zs Q E (hr.mono hk) e0 r rz hl (h _ _ _ _ _ q)
section
variable {P : Program} {w : World} {K : PySem.W.Frag} {mg : Str → Option Value} {base : Heap} {k : Nat} {f : Addr} {name qual : Str} {st : Stmt} {fd : FuncData} {N ps : List Str} {sp : Sp} {pv px : Str} {dv : V}
theorem fun_star (F : FunD K name qual (defArgs st) (defBody st) (defScope st) [] [] f fd) (S : FnScope N (ps ++ [pv]) (defScope st))
    (hb : ∀ (kV doc pm : Value) (an : Option Addr) (cdv ct : Value) (us rest : List Value), us.length = ps.length → bindArgs (PySem.W.fnOf name qual (defArgs st) (defBody st) (defScope st) .none kV doc pm an cdv ct) ⟨us ++ rest, []⟩ = (newTuple rest >>= fun t => pure (ps.zip us ++ [(pv, t)])))
    (hbody : ∀ (cdv : Value) (A : Around) (outer : List Env) (s : Shared) (H : Hp) (vs : List V) (Q : VK) (E : XK), Room k (A.deeper (envOfC qual (defScope st) s.heap.objs.size f cdv)) → sp vs H Q E →
      ∃ t, PSs (cxOf CX0 P w K mg base N qual (defScope st) f cdv A outer s H E).nox (defBody st) t ∧ t { nx := fun _ H' => Q .non H', rt := Q } (L2.start N vs) H) :
    FnR P w K mg base CX0 (k + 1) f (fun vs H Q E => ∃ ws rest, vs = ws ++ rest ∧ ws.length = ps.length ∧ rest.length ≤ sizeLine ∧ ∀ p, H p = Option.none → sp (ws ++ [V.ref p]) (upd H p (.tup rest)) Q E) := by
  obtain ⟨oc, od, dV, kV, doc, pm, an, cdv, ct, osl, rfl, lk, hcd, hD, hK⟩ := F.ex
  rcases hD with ⟨_, rfl⟩ | ⟨e, _⟩
  · refine fn_star lk hcd S (fun _ _ _ _ _ _ _ _ _ _ _ h => h) (hb kV doc pm an cdv ct) fun A outer s H vs Q E hr h => ?_
    obtain ⟨t, h1, h2⟩ := hbody cdv A outer s H vs Q E hr h
    exact ⟨t, h1.nox, h2⟩
  · exact absurd rfl e
/-- the keyword is given -/
theorem fun_kwstar (F : FunD K name qual (defArgs st) (defBody st) (defScope st) [] [(px, dv)] f fd) (S : FnScope N (ps ++ [px, pv]) (defScope st))
    (hb : ∀ (kV doc pm : Value) (an : Option Addr) (cdv ct : Value) (us rest : List Value) (v : Value), us.length = ps.length → bindArgs (PySem.W.fnOf name qual (defArgs st) (defBody st) (defScope st) .none kV doc pm an cdv ct) ⟨us ++ rest, [(px, v)]⟩ = (newTuple rest >>= fun t => pure (ps.zip us ++ [(px, v), (pv, t)])))
    (hbody : ∀ (cdv : Value) (A : Around) (outer : List Env) (s : Shared) (H : Hp) (vs : List V) (Q : VK) (E : XK), Room k (A.deeper (envOfC qual (defScope st) s.heap.objs.size f cdv)) → sp vs H Q E →
      ∃ t, PSs (cxOf CX0 P w K mg base N qual (defScope st) f cdv A outer s H E).nox (defBody st) t ∧ t { nx := fun _ H' => Q .non H', rt := Q } (L2.start N vs) H) :
    FnRk P w K mg base CX0 (k + 1) f [px] (fun vs zs H Q E => ∃ ws rest x, vs = ws ++ rest ∧ zs = [x] ∧ ws.length = ps.length ∧ rest.length ≤ sizeLine ∧ ∀ p, H p = Option.none → sp (ws ++ [x, V.ref p]) (upd H p (.tup rest)) Q E) := by
  obtain ⟨oc, od, dV, kV, doc, pm, an, cdv, ct, osl, rfl, lk, hcd, hD, hK⟩ := F.ex
  rcases hD with ⟨_, rfl⟩ | ⟨e, _⟩
  · intro A outer s H us wsv vs zs Q E hr e0 r rz hlz hsp
    obtain ⟨ws, rest, x, ev, ez, hl, hz, hq⟩ := hsp
    subst ev ez
    obtain ⟨u1, u2, eu, r1, r2⟩ := vals_split r
    subst eu
    obtain ⟨xv, rfl, rx⟩ := vals1 rz
    have hn : H s.heap.objs.size = Option.none := e0.hok.fresh (Nat.le_refl _)
    have hl1 : u1.length = ps.length := by rw [← r1.length]; exact hl
    have hl2 : u2.length ≤ sizeLine := by rw [← r2.length]; exact hz
    show codeAny (model P w) A (.call (.ref f) ⟨u1 ++ u2, [(px, xv)]⟩) _ s
    refine run_bnd lk hcd S hr e0 (G := fun xs H2 => ∃ p, H p = Option.none ∧ xs = ws ++ [x, V.ref p] ∧ H2 = upd H p (.tup rest)) (fun A' Ex Q' h => ?_) fun s2 H2 xs ⟨p, hp, ex, eH⟩ hr' => ?_
    · rw [hb kV doc pm an cdv ct u1 u2 xv hl1]
      refine wpAny_bind (wpAny_newTuple (wpAny_pure ?_) hl2)
      have new : ObjOk P w (upd H s.heap.objs.size (.tup rest)) (s.heap.push ({ cls := .type "tuple", data := .seq u2.toArray } : Obj)) s.heap.objs.size (.tup rest) := ⟨hz, u2, r2, ⟨_, Heap.get?_push_size _ rfl, rfl, _, rfl⟩⟩
      have un := un_laid (fs := frs outer) (s := s) (o := ({ cls := .type "tuple", data := .seq u2.toArray } : Obj)) (u := .tup rest) hn
      have z := h _ _ (ws ++ [x, V.ref s.heap.objs.size]) (u1 ++ [xv, Value.ref s.heap.objs.size]) (env0_laid e0 new) un rfl (fun e s' z => z) (r1.append (.cons rx (.cons rfl .nil)))
        (by rw [List.length_append, List.length_append, hl] <;> rfl) ⟨_, hn, rfl, rfl⟩
      rw [List.zip_append hl1.symm] at z
      exact z
    · subst ex eH
      obtain ⟨t, h1, h2⟩ := hbody cdv A outer s2 _ _ Q E hr' (hq p hp)
      exact ⟨t, h1.nox, h2⟩
  · exact absurd rfl e
/-- the keyword is left out -/
theorem fun_kwstar0 (F : FunD K name qual (defArgs st) (defBody st) (defScope st) [] [(px, dv)] f fd) (S : FnScope N (ps ++ [px, pv]) (defScope st))
    (hb : ∀ (D : Addr) (doc pm : Value) (an : Option Addr) (cdv ct : Value) (us rest : List Value) (v : Value), us.length = ps.length →
      ∃ (β γ : Type) (k1 : Option Value → Sem β) (k2 : β → Sem γ) (k3 : γ → Sem (List (Str × Value))) (a : β), bindArgs (PySem.W.fnOf name qual (defArgs st) (defBody st) (defScope st) .none (.ref D) doc pm an cdv ct) ⟨us ++ rest, []⟩ = ((nsGet D px >>= k1) >>= k2) >>= k3 ∧
        k1 (some v) = pure a ∧ (k2 a >>= k3) = (newTuple rest >>= fun t => pure (ps.zip us ++ [(px, v), (pv, t)])))
    (hbody : ∀ (cdv : Value) (A : Around) (outer : List Env) (s : Shared) (H : Hp) (vs : List V) (Q : VK) (E : XK), Room k (A.deeper (envOfC qual (defScope st) s.heap.objs.size f cdv)) → sp vs H Q E →
      ∃ t, PSs (cxOf CX0 P w K mg base N qual (defScope st) f cdv A outer s H E).nox (defBody st) t ∧ t { nx := fun _ H' => Q .non H', rt := Q } (L2.start N vs) H) :
    FnRk P w K mg base CX0 (k + 1) f [] (fun vs _ H Q E => ∃ ws rest, vs = ws ++ rest ∧ ws.length = ps.length ∧ rest.length ≤ sizeLine ∧ ∀ p, H p = Option.none → sp (ws ++ [dv, V.ref p]) (upd H p (.tup rest)) Q E) := by
  obtain ⟨oc, od, dV, kV, doc, pm, an, cdv, ct, osl, rfl, lk, hcd, hD, hK⟩ := F.ex
  rcases hD with ⟨_, rfl⟩ | ⟨e, _⟩
  · rcases hK with e | ⟨D, rfl, hq0⟩
    · cases e
    intro A outer s H us wsv vs zs Q E hr e0 r rz hlz hsp
    obtain ⟨ws, rest, ev, hl, hz, hq⟩ := hsp
    subst ev
    obtain ⟨u1, u2, eu, r1, r2⟩ := vals_split r
    subst eu
    obtain ⟨xv, hD, rx⟩ := hq0 _ (List.mem_cons_self ..)
    have hn : H s.heap.objs.size = Option.none := e0.hok.fresh (Nat.le_refl _)
    have hl1 : u1.length = ps.length := by rw [← r1.length]; exact hl
    have hl2 : u2.length ≤ sizeLine := by rw [← r2.length]; exact hz
    have KX : K.In s.heap := e0.mod.kin.keeps fun b o e => (e0.bs b o e).1
    show codeAny (model P w) A (.call (.ref f) ⟨u1 ++ u2, []⟩) _ s
    refine run_bnd lk hcd S hr e0 (G := fun xs H2 => ∃ p, H p = Option.none ∧ xs = ws ++ [dv, V.ref p] ∧ H2 = upd H p (.tup rest)) (fun A' Ex Q' h => ?_) fun s2 H2 xs ⟨p, hp, ex, eH⟩ hr' => ?_
    · obtain ⟨β, γ, k1, k2, k3, a, h1, h2, h3⟩ := hb D doc pm an cdv ct u1 u2 xv hl1
      rw [h1, bind_assoc]
      have lk1 : PySem.W.Looks (model P w) s.heap (nsGet D px >>= k1) a := (PySem.W.looks_nsIn KX hD).andThen (PySem.W.Looks.of_pure h2)
      refine wpAny_bind (lk1 A' _ _ s (fun _ _ e => e) ?_)
      show wpAny (model P w) A' (k2 a >>= k3) Q' Ex s
      rw [h3]
      refine wpAny_bind (wpAny_newTuple (wpAny_pure ?_) hl2)
      have new : ObjOk P w (upd H s.heap.objs.size (.tup rest)) (s.heap.push ({ cls := .type "tuple", data := .seq u2.toArray } : Obj)) s.heap.objs.size (.tup rest) := ⟨hz, u2, r2, ⟨_, Heap.get?_push_size _ rfl, rfl, _, rfl⟩⟩
      have un := un_laid (fs := frs outer) (s := s) (o := ({ cls := .type "tuple", data := .seq u2.toArray } : Obj)) (u := .tup rest) hn
      have z := h _ _ (ws ++ [dv, V.ref s.heap.objs.size]) (u1 ++ [xv, Value.ref s.heap.objs.size]) (env0_laid e0 new) un rfl (fun e s' z => z) (r1.append (.cons rx (.cons rfl .nil)))
        (by rw [List.length_append, List.length_append, hl] <;> rfl) ⟨_, hn, rfl, rfl⟩
      rw [List.zip_append hl1.symm] at z
      exact z
    · subst ex eH
      obtain ⟨t, h1, h2⟩ := hbody cdv A outer s2 _ _ Q E hr' (hq p hp)
      exact ⟨t, h1.nox, h2⟩
  · exact absurd rfl e
end
end G
/-! tables: kinds, rows, links -/
namespace G
open PySem PySem.Spec PyProof.Rows L2
/-- ascending NAMEs, each once -/
structure Asc (zs : List Str) : Prop where
  pw : zs.Pairwise leS
  nd : zs.Nodup
  ok : ∀ z ∈ zs, PyData.strOk z = true
theorem Asc.nil : Asc [] := ⟨.nil, .nil, fun _ h => nomatch h⟩
theorem Asc.eq {xs ys : List Str} (a : Asc xs) (b : Asc ys) (h : ∀ z, z ∈ xs ↔ z ∈ ys) : xs = ys := asc_eq a.pw b.pw a.nd b.nd h
abbrev Mp := List (Nat × Nat)
structure Tb where
  ks : List Str
  rows : List (List Str × Int)
  nx : List Mp
  bf : List Mp
/-- where a table's parts stand -/
structure TAd where
  a : Addr
  dx : Addr
  ps : Addr
  pn : Addr
  pb : Addr
  pf : Addr
  pm : Addr
  qs : List Addr
  rs : List Addr
def TAd.fp (A : TAd) : List Addr := A.pn :: A.pb :: A.pf :: A.pm :: (A.qs ++ A.rs)
def TAd.fs (A : TAd) : List (Str × V) := [("sorts", .ref A.ps), ("nexts", .ref A.pn), ("befores", .ref A.pb), ("facts", .ref A.pf), ("numbers", .ref A.pm)]
def mpK (m : Mp) : List (Key × V) := m.map fun e => (Sum.inl (e.1 : Int), V.int e.2)
def kdK (ks : List Str) (qs : List Addr) : List (Key × V) := (ks.zip qs).map fun e => (Sum.inr e.1, V.ref e.2)
/-- tuples of marks, row by row -/
structure Mks (K : PySem.W.Frag) (H : Hp) (ts : List Addr) (rows : List (List Str × Int)) : Prop where
  len : ts.length = rows.length
  at_ : ∀ (i : Nat) (t : Addr) (r : List Str × Int), ts[i]? = some t → rows[i]? = some r → SqT K H t (r.1.map V.str)
/-- dicts, kind by kind -/
structure Dks (H : Hp) (qs : List Addr) (ms : List Mp) : Prop where
  len : qs.length = ms.length
  at_ : ∀ (i : Nat) (q : Addr) (m : Mp), qs[i]? = some q → ms[i]? = some m → H q = some (.dK (mpK m))
structure TbP (K : PySem.W.Frag) (C : Addr) (A : TAd) (T : Tb) (H : Hp) : Prop where
  ins : H A.a = some (.ins C A.dx A.fs)
  so : SqT K H A.ps (T.ks.map V.str)
  nx : H A.pn = some (.dK (kdK T.ks A.qs))
  bf : H A.pb = some (.dK (kdK T.ks A.rs))
  fa : ∃ ts : List Addr, H A.pf = some (.lst (ts.map V.ref)) ∧ Mks K H ts T.rows
  nu : H A.pm = some (.lst (T.rows.map fun r => V.int r.2))
  qd : Dks H A.qs T.nx
  rd : Dks H A.rs T.bf
  kn : T.nx.length = T.ks.length
  kb : T.bf.length = T.ks.length
  nd : A.fp.Nodup
  ka : Asc T.ks
  ra : ∀ r ∈ T.rows, Asc r.1
section
variable {K : PySem.W.Frag} {C : Addr} {A : TAd} {T : Tb} {H H' : Hp}
theorem Mks.loc {MC : Addr → Prop} {ts : List Addr} {rows : List (List Str × Int)} (k : ∀ a o, H a = some o → a ∈ ([] : List Addr) ∨ Imm MC o → H' a = some o) (h : Mks K H ts rows) : Mks K H' ts rows :=
  ⟨h.len, fun i t r h1 h2 => sqt_loc k (h.at_ i t r h1 h2)⟩
theorem TbP.loc {MC : Addr → Prop} (nc : ¬ MC C) : Loc MC A.fp (TbP K C A T) := fun H H' k h => by
  have k2 : ∀ a o, H a = some o → a ∈ ([] : List Addr) ∨ Imm MC o → H' a = some o := fun a o e i => k a o e (i.elim (fun z => nomatch z) .inr)
  obtain ⟨ts, h1, h2⟩ := h.fa
  exact ⟨k _ _ h.ins (.inr nc), sqt_loc k2 h.so, k _ _ h.nx (.inl (.head _)), k _ _ h.bf (.inl (.tail _ (.head _))), ⟨ts, k _ _ h1 (.inl (.tail _ (.tail _ (.head _)))), h2.loc k2⟩, k _ _ h.nu (.inl (.tail _ (.tail _ (.tail _ (.head _))))),
    ⟨h.qd.len, fun i q m a b => k _ _ (h.qd.at_ i q m a b) (.inl (.tail _ (.tail _ (.tail _ (.tail _ (List.mem_append_left _ (List.mem_of_getElem? a)))))))⟩,
    ⟨h.rd.len, fun i q m a b => k _ _ (h.rd.at_ i q m a b) (.inl (.tail _ (.tail _ (.tail _ (.tail _ (List.mem_append_right _ (List.mem_of_getElem? a)))))))⟩, h.kn, h.kb, h.nd, h.ka, h.ra⟩
theorem TbP.same (h : TbP K C A T H) (s : Same H H') : TbP K C A T H' := TbP.loc (MC := fun _ => False) (fun z => z) H H' (fun a o e _ => s a o e) h
/-- every mutable cell is there -/
theorem TbP.cells {MC : Addr → Prop} (h : TbP K C A T H) : ∀ a ∈ A.fp, ∃ o, H a = some o ∧ ¬ Imm MC o := by
  intro a ha
  obtain ⟨ts, h1, _⟩ := h.fa
  rcases List.mem_cons.mp ha with rfl | ha
  · exact ⟨_, h.nx, fun z => z⟩
  rcases List.mem_cons.mp ha with rfl | ha
  · exact ⟨_, h.bf, fun z => z⟩
  rcases List.mem_cons.mp ha with rfl | ha
  · exact ⟨_, h1, fun z => z⟩
  rcases List.mem_cons.mp ha with rfl | ha
  · exact ⟨_, h.nu, fun z => z⟩
  rcases List.mem_append.mp ha with ha | ha
  · obtain ⟨i, hi, e⟩ := List.mem_iff_getElem.mp ha
    have hl := h.qd.len
    exact ⟨_, h.qd.at_ i a T.nx[i] (by rw [List.getElem?_eq_getElem hi, e]) (List.getElem?_eq_getElem (by omega)), fun z => z⟩
  · obtain ⟨i, hi, e⟩ := List.mem_iff_getElem.mp ha
    have hl := h.rd.len
    exact ⟨_, h.rd.at_ i a T.bf[i] (by rw [List.getElem?_eq_getElem hi, e]) (List.getElem?_eq_getElem (by omega)), fun z => z⟩
/-- no fixed thing stands at a cell -/
theorem TbP.ne {a : Addr} {o : HO} (h : TbP K C A T H) (e : H a = some o) (i : Imm (fun _ => False) o) : a ∉ A.fp := fun z => by
  obtain ⟨u, hu, n⟩ := h.cells (MC := fun _ => False) a z
  rw [e] at hu; cases hu
  exact n i
/-- as long as the cells stand as they do -/
theorem TbP.fr {S : List Addr} (h : TbP K C A T H) (f : Fr S H H') (d : ∀ a ∈ A.fp, a ∉ S) (i : ∀ a ∈ S, ∀ o, H a = some o → ¬ Imm (fun _ => False) o) : TbP K C A T H' :=
  TbP.loc (MC := fun _ => False) (fun z => z) H H' (fun a o e z => f a o (fun m => z.elim (fun z => d a z m) (fun z => i a m o e z)) e) h
variable {ts : List Addr}
theorem nd_pf (h : A.fp.Nodup) : A.pf ≠ A.pn ∧ A.pf ≠ A.pb ∧ A.pf ≠ A.pm ∧ A.pf ∉ A.qs ∧ A.pf ∉ A.rs := by
  simp only [TAd.fp, List.nodup_cons, List.mem_cons, List.mem_append, not_or] at h
  exact ⟨fun e => h.1.2.1 e.symm, fun e => h.2.1.1 e.symm, h.2.2.1.1, h.2.2.1.2.1, h.2.2.1.2.2⟩
theorem nd_pm (h : A.fp.Nodup) : A.pm ≠ A.pn ∧ A.pm ≠ A.pb ∧ A.pm ≠ A.pf ∧ A.pm ∉ A.qs ∧ A.pm ∉ A.rs := by
  simp only [TAd.fp, List.nodup_cons, List.mem_cons, List.mem_append, not_or] at h
  exact ⟨fun e => h.1.2.2.1 e.symm, fun e => h.2.1.2.1 e.symm, fun e => h.2.2.1.1 e.symm, h.2.2.2.1.1, h.2.2.2.1.2⟩
theorem Dks.upd {qs : List Addr} {ms : List Mp} {p : Addr} {o : HO} (h : Dks H qs ms) (n : p ∉ qs) : Dks (L2.upd H p o) qs ms :=
  ⟨h.len, fun i q m a b => by rw [upd_ne (show q ≠ p from fun e => n (by rw [← e]; exact List.mem_of_getElem? a))]; exact h.at_ i q m a b⟩
theorem sqt_upd {p q : Addr} {o u : HO} {xs : List V} (h : SqT K H q xs) (e : H p = some u) (i : ¬ Imm (fun _ => False) u) : SqT K (L2.upd H p o) q xs := by
  rcases h with (h | ⟨o', h⟩) | h
  · exact .inl (.inl (by rw [upd_ne (fun z => by rw [z, e] at h; cases h; exact i trivial)]; exact h))
  · exact .inl (.inr ⟨o', by rw [upd_ne (fun z => by rw [z, e] at h; cases h; exact i trivial)]; exact h⟩)
  · exact .inr h
/-- the marks are rewritten -/
theorem TbP.setF (h : TbP K C A T H) {rows' : List (List Str × Int)} {ts' : List Addr} (m : Mks K H ts' rows') (n : rows'.map (fun r => V.int r.2) = T.rows.map fun r => V.int r.2) (ra : ∀ r ∈ rows', Asc r.1) : TbP K C A { T with rows := rows' } (L2.upd H A.pf (.lst (ts'.map V.ref))) := by
  obtain ⟨ts, h1, _⟩ := h.fa
  obtain ⟨n1, n2, n3, n4, n5⟩ := nd_pf h.nd
  have im : ¬ Imm (fun _ => False) (.lst (ts.map V.ref)) := fun z => z
  have na : A.a ≠ A.pf := fun e => by have := h.ins; rw [e, h1] at this; cases this
  exact ⟨by rw [upd_ne na]; exact h.ins, sqt_upd h.so h1 im, by rw [upd_ne (Ne.symm n1)]; exact h.nx, by rw [upd_ne (Ne.symm n2)]; exact h.bf, ⟨ts', upd_same, ⟨m.len, fun i t r a b => sqt_upd (m.at_ i t r a b) h1 im⟩⟩, by rw [upd_ne (Ne.symm n3)]; show H A.pm = some (.lst (rows'.map _)); rw [n]; exact h.nu, h.qd.upd n4, h.rd.upd n5, h.kn, h.kb, h.nd, h.ka, ra⟩
/-- the numbers are rewritten -/
theorem TbP.setN (h : TbP K C A T H) {rows' : List (List Str × Int)} (n : rows'.map (fun r => r.1) = T.rows.map fun r => r.1) : TbP K C A { T with rows := rows' } (L2.upd H A.pm (.lst (rows'.map fun r => V.int r.2))) := by
  obtain ⟨ts, h1, h2⟩ := h.fa
  obtain ⟨n1, n2, n3, n4, n5⟩ := nd_pm h.nd
  have im : ¬ Imm (fun _ => False) (.lst (T.rows.map fun r => V.int r.2)) := fun z => z
  have na : A.a ≠ A.pm := fun e => by have := h.ins; rw [e, h.nu] at this; cases this
  have hl : rows'.length = T.rows.length := by have := congrArg List.length n; rwa [List.length_map, List.length_map] at this
  have key : ∀ (i : Nat) r, rows'[i]? = some r → ∃ r', T.rows[i]? = some r' ∧ r'.1 = r.1 := fun i r e => by
    have h3 : (rows'.map (fun r => r.1))[i]? = some r.1 := by rw [List.getElem?_map, e]; rfl
    rw [n, List.getElem?_map] at h3
    obtain ⟨r', h4, h5⟩ := Option.map_eq_some_iff.mp h3
    exact ⟨r', h4, h5⟩
  refine ⟨by rw [upd_ne na]; exact h.ins, sqt_upd h.so h.nu im, by rw [upd_ne (Ne.symm n1)]; exact h.nx, by rw [upd_ne (Ne.symm n2)]; exact h.bf, ⟨ts, by rw [upd_ne (Ne.symm n3)]; exact h1, ⟨by rw [hl]; exact h2.len, fun i t r a b => ?_⟩⟩, upd_same, h.qd.upd n4, h.rd.upd n5, h.kn, h.kb, h.nd, h.ka, fun r hr => ?_⟩
  · obtain ⟨r', e1, e2⟩ := key i r b
    rw [← e2]
    exact sqt_upd (h2.at_ i t r' a e1) h.nu im
  · obtain ⟨i, hi, e⟩ := List.mem_iff_getElem.mp hr
    obtain ⟨r', e1, e2⟩ := key i r (by rw [List.getElem?_eq_getElem hi, e])
    rw [← e2]
    exact h.ra r' (List.mem_of_getElem? e1)
/-- a row more -/
theorem TbP.put (h : TbP K C A T H) (h1 : H A.pf = some (.lst (ts.map V.ref))) (h2 : Mks K H ts T.rows) {t : Addr} {zs : List Str} {x : Int} (ht : SqT K H t (zs.map V.str)) (az : Asc zs) :
    TbP K C A { T with rows := T.rows ++ [(zs, x)] } (L2.upd (L2.upd H A.pf (.lst (ts.map V.ref ++ [.ref t]))) A.pm (.lst (T.rows.map (fun r => V.int r.2) ++ [.int x]))) := by
  obtain ⟨n1, n2, n3, n4, n5⟩ := nd_pf h.nd
  obtain ⟨m1, m2, m3, m4, m5⟩ := nd_pm h.nd
  have im : ¬ Imm (fun _ => False) (.lst (ts.map V.ref)) := fun z => z
  have na : A.a ≠ A.pf := fun e => by have := h.ins; rw [e, h1] at this; cases this
  have nb : A.a ≠ A.pm := fun e => by have := h.ins; rw [e, h.nu] at this; cases this
  have e2 : L2.upd H A.pf (.lst (ts.map V.ref ++ [.ref t])) A.pm = some (.lst (T.rows.map fun r => V.int r.2)) := by rw [upd_ne m3]; exact h.nu
  have im2 : ¬ Imm (fun _ => False) (.lst (T.rows.map fun r => V.int r.2)) := fun z => z
  refine ⟨by rw [upd_ne nb, upd_ne na]; exact h.ins, sqt_upd (sqt_upd h.so h1 im) e2 im2, by rw [upd_ne (Ne.symm m1), upd_ne (Ne.symm n1)]; exact h.nx, by rw [upd_ne (Ne.symm m2), upd_ne (Ne.symm n2)]; exact h.bf, ⟨ts ++ [t], by rw [upd_ne n3, upd_same, List.map_append]; rfl, ⟨by rw [List.length_append, List.length_append, h2.len]; rfl, fun i u r a b => ?_⟩⟩,
    by rw [upd_same, List.map_append]; rfl, (h.qd.upd n4).upd m4, (h.rd.upd n5).upd m5, h.kn, h.kb, h.nd, h.ka, fun r hr => ?_⟩
  · rcases Nat.lt_trichotomy i ts.length with hi | hi | hi
    · rw [List.getElem?_append_left hi] at a
      rw [List.getElem?_append_left (by rw [← h2.len]; exact hi)] at b
      exact sqt_upd (sqt_upd (h2.at_ i u r a b) h1 im) e2 im2
    · rw [hi, List.getElem?_append_right (Nat.le_refl _)] at a
      rw [hi, h2.len, List.getElem?_append_right (Nat.le_refl _)] at b
      obtain rfl : t = u := by simpa using a
      obtain rfl : (zs, x) = r := by simpa using b
      exact sqt_upd (sqt_upd ht h1 im) e2 im2
    · rw [List.getElem?_append_right (by omega), List.getElem?_eq_none (by simp; omega)] at a
      cases a
  · rcases List.mem_append.mp hr with hr | hr
    · exact h.ra r hr
    · rw [List.mem_singleton.mp hr]; exact az
end
/-- a table -/
def tbR {Γ : Gm} (C : Addr) (A : TAd) (T : Tb) : RS (E1 Γ) := ⟨A.fp, TbP Γ.K C A T, TbP.loc (fun z => z), false⟩
section
variable {Γ : Gm} {C : Addr} {A : TAd} {T T' : Tb} {H0 H H' : Hp} {S0 : List Addr} {F : List (PF (E1 Γ))} {R R' : List (RS (E1 Γ))}
theorem SS.tb (s : SS (E1 Γ) H0 S0 H F R) (m : tbR C A T ∈ R) : TbP Γ.K C A T H := s.r _ m
/-- the table is changed -/
theorem SS.tbU (s : SS (E1 Γ) H0 S0 H F R) (p : Pick R (tbR C A T) R' (tbR C A T')) (f : Fr A.fp H H') (h : TbP Γ.K C A T' H') : SS (E1 Γ) H0 S0 H' F R' :=
  s.upd p rfl f h h.nd (fun a h => .inl h) h.cells
/-- at the entry: a table -/
theorem SS.tb1 (h : TbP Γ.K C A T H) : SS (E1 Γ) H A.fp H [] [tbR C A T] := by
  have s := SS.start (E := E1 Γ) (F := []) (R := [tbR C A T]) (H := H) (fun _ h => nomatch h) (fun x hx => by
    cases hx with
    | head => exact h
    | tail _ z => cases z) (by show (A.fp ++ []).Nodup; rw [List.append_nil]; exact h.nd) (fun a ha => h.cells a (by have : a ∈ A.fp ++ [] := ha; rwa [List.append_nil] at this))
  have e : ows [tbR (Γ := Γ) C A T] = A.fp := List.append_nil _
  rw [e] at s
  exact s
end
end G
/-! own len(x), x[i], x[i] = v; dicts locked for a walk -/
namespace G
open PySem PySem.Spec PyProof.Rows L2
/-- x[i] of an own instance -/
def XR (X : Cx) (r : R2) : Prop := ∀ (value slice : Expr) (pins : List (Addr × Obj)) (s : Shared) (σ : L2.St) (H : Hp) (x y : V) (v u : Value) (Q : VK), Inv X pins σ H s → RelV x v → RelV y u → r x y H Q →
  (subscripted slice true v u = runValue (.builtin "lifetime.subscript" ⟨[v, u], []⟩)) → wpAny (model X.prog X.w) X.A (subscriptTail value slice v u) (EP X pins σ Q) X.xe s
def WY (Γ : Gm) : R2 := fun x y H Q => ∃ r, (∀ X, Good Γ X → XR X r) ∧ r x y H Q
section
variable {Γ : Gm} {X : Cx} {a b : Expr} {ta tb : TE} {pos : Pos}
theorem WY.ok (g : Good Γ X) : XR X (WY Γ) := fun value slice pins s σ H x y v u Q I rx ry ⟨_, h, q⟩ hs => h X g value slice pins s σ H x y v u Q I rx ry q hs
theorem pe_ixO {r : R2} (hr : XR X r) (ha : PE X a ta) (hb : PE X b tb) (hs : ∀ v u, subscripted b true v u = runValue (.builtin "lifetime.subscript" ⟨[v, u], []⟩)) : PE X (.Subscript a b pos) (tOp r ta tb) := by
  refine ⟨fun pins s σ H Q I h => ?_⟩
  refine Subscript_ (thn (ha.run pins s σ H _ I h) fun v s1 ⟨x, H1, I1, rx, q1⟩ => thn (hb.run pins s1 σ H1 _ I1 q1) fun u s2 ⟨y, H2, I2, ry, q2⟩ => ?_)
  exact hr a b pins s2 σ H2 x y v u Q I2 rx ry q2 (hs _ _)
end
section
variable {Γ : Gm} {C a dx : Addr} {fs : List (Str × V)} {H : Hp} {Q : VK} {n l : Nat} {sp : Sp} {E : XK} {y : V}
theorem wy_own (M : Mt Γ CX0 n C "__getitem__" sp []) (fn : ∀ f, Meth Γ.K C "__getitem__" f → PySem.W.fnIn Γ.K f = true) (hn : n + 1 ≤ l) (ha : H a = some (.ins C dx fs)) (q : sp [.ref a, y] H Q E) : WY (Γ.at l) (.ref a) y H Q :=
  ⟨fun x y H Q => ∃ a dx fs, x = .ref a ∧ H a = some (.ins C dx fs) ∧ sp [.ref a, y] H Q E, fun X g value slice pins s σ H x y v u Q I rx ry ⟨a, dx, fs, ex, ha, q⟩ hs => by
    subst ex
    obtain rfl : v = Value.ref a := rx
    obtain ⟨P, w, K, mg, base, lv⟩ := Γ
    obtain ⟨h1, h2, h3, h4, h5, _, hr⟩ := g
    simp only at h1 h2 h3 h4 h5 hr
    subst h1 h2 h3 h4 h5
    obtain ⟨f, fd, ps, ds, F, c, hm, hbi, hd⟩ := M.ex
    obtain ⟨od, J⟩ := own_at I ha
    obtain ⟨m, hF⟩ := I.fr
    exact PySem.W.sub_K hF I.ok.mod.kin J hm.at_ (fn f hm) hm.fn (run_in1 (us := [.ref a, u]) (vs := [.ref a, y]) F (hr.mono hn) hbi hd passE I (.cons rfl (.cons ry .nil)) q) hs, a, dx, fs, rfl, ha, q⟩
theorem wc_lenO (M : Mt Γ CX0 n C "__len__" sp []) (hn : n + 1 ≤ l) (ha : H a = some (.ins C dx fs)) (q : sp [.ref a] H (fun r H' => ∃ i : Int, r = .int i ∧ 0 ≤ i ∧ i < 2 ^ 63 ∧ Q (.int i) H') E) : WC (Γ.at l) (.builtin "len") [.ref a] H Q :=
  ⟨fun xs H Q => ∃ a dx fs, xs = [.ref a] ∧ H a = some (.ins C dx fs) ∧ sp [.ref a] H (fun r H' => ∃ i : Int, r = .int i ∧ 0 ≤ i ∧ i < 2 ^ 63 ∧ Q (.int i) H') E, fun X g pins s σ H xs us Q I r ⟨a, dx, fs, ex, ha, q⟩ => by
    subst ex
    obtain ⟨u, rfl, rx⟩ := vals1 r
    obtain rfl : u = Value.ref a := rx
    obtain ⟨P, w, K, mg, base, lv⟩ := Γ
    obtain ⟨h1, h2, h3, h4, h5, _, hr⟩ := g
    simp only at h1 h2 h3 h4 h5 hr
    subst h1 h2 h3 h4 h5
    obtain ⟨f, fd, ps, ds, F, c, hm, hbi, hd⟩ := M.ex
    obtain ⟨od, J⟩ := own_at I ha
    obtain ⟨m, hF⟩ := I.fr
    refine PySem.W.len_K hF I.ok.mod.kin J hm.at_ hm.fn ?_
    refine wpAny_mono (run_in1 (us := [.ref a]) (vs := [.ref a]) F (hr.mono hn) hbi hd passE I (.cons rfl .nil) q) (fun w s' z => ?_) fun _ _ x => x
    obtain ⟨z', H', I', rz, i, rfl, i0, i1, qz⟩ := z
    obtain ⟨t, rfl⟩ := rz
    exact ⟨⟨i0, i1⟩, .int i, H', I'.tok _, ⟨_, rfl⟩, qz⟩, a, dx, fs, rfl, ha, q⟩
theorem wp_own {i v : V} {Q : Hp → Prop} (M : Mt Γ CX0 n C "__setitem__" sp []) (nq : PySem.W.noSeq Γ.K C = true) (hn : n ≤ l) (ha : H a = some (.ins C dx fs)) (q : sp [.ref a, i, v] H (fun _ H' => Q H') E) : WP (Γ.at l) (.ref a) i v H Q :=
  ⟨fun o i v H Q => ∃ a dx fs, o = .ref a ∧ H a = some (.ins C dx fs) ∧ sp [.ref a, i, v] H (fun _ H' => Q H') E, fun X g pins s σ H o i v ov iv u Q I ro ri rv ⟨a, dx, fs, ex, ha, q⟩ => by
    subst ex
    obtain rfl : ov = Value.ref a := ro
    obtain ⟨P, w, K, mg, base, lv⟩ := Γ
    obtain ⟨h1, h2, h3, h4, h5, _, hr⟩ := g
    simp only at h1 h2 h3 h4 h5 hr
    subst h1 h2 h3 h4 h5
    obtain ⟨f, fd, ps, ds, F, c, hm, hbi, hd⟩ := M.ex
    obtain ⟨od, J⟩ := own_at I ha
    obtain ⟨m, hF⟩ := I.fr
    refine PySem.W.ksp_setItem hF I.ok.mod.kin J nq hm.at_ hm.fn ?_
    refine wpAny_mono (run_fn (us := [.ref a, iv, u]) (vs := [.ref a, i, v]) F (hr.mono hn) hbi hd passE I (.cons rfl (.cons ri (.cons rv .nil))) q) (fun w s' z => ?_) fun _ _ x => x
    obtain ⟨z', H', I', rz, qz⟩ := z
    exact ⟨H', I', qz⟩, a, dx, fs, rfl, ha, q⟩
end
/-! ### locks -/
def tLockN : Nat → TS → TS
  | 0, t => t
  | n + 1, t => tLock (tLockN n t)
def tLocks (t : TS) : TS := fun D σ H => ∃ n, tLockN n t D σ H
theorem ps_lockN {X : Cx} {st : Stmt} {t : TS} (h : PS X st t) : ∀ n, PS X st (tLockN n t)
  | 0 => h
  | n + 1 => ps_lock (ps_lockN h n)
theorem ps_locks {X : Cx} {st : Stmt} {t : TS} (h : PS X st t) : PS X st (tLocks t) :=
  ⟨fun pins s σ H D I ⟨n, hw⟩ => (ps_lockN h n).run pins s σ H D I hw⟩
/-- the dicts at qs are locked while t runs; behind it they stand as before -/
theorem locks_go {t : TS} {D : Ends} {σ : L2.St} : ∀ (qs : List Addr) (ms : List Mp) (H : Hp), Dks H qs ms → qs.Nodup →
    (∀ (HL : Hp) (D' : Ends), (∀ (i : Nat) (q : Addr) (m : Mp), qs[i]? = some q → ms[i]? = some m → ∃ od, HL q = some (.frz od (.dK (mpK m)))) → (∀ a, a ∉ qs → HL a = H a) →
      (∀ σ' H', Same HL H' → (∀ H'', (∀ a, a ∉ qs → H'' a = H' a) → Dks H'' qs ms → D.nx σ' H'') → D'.nx σ' H') → t D' σ HL) → tLockN qs.length t D σ H
  | [], ms, H, d, nd, k => k H D (fun i q m h => by simp at h) (fun a _ => rfl) fun σ' H' s h => h H' (fun a _ => rfl) ⟨d.len, fun i q m h => by simp at h⟩
  | q :: qs, ms, H, d, nd, k => by
    obtain ⟨m, ms', rfl⟩ : ∃ m ms', ms = m :: ms' := by
      have := d.len
      cases ms with
      | nil => simp at this
      | cons m ms' => exact ⟨_, _, rfl⟩
    have n := List.nodup_cons.mp nd
    have hq : H q = some (.dK (mpK m)) := d.at_ 0 q m rfl rfl
    refine ⟨q, .dK (mpK m), hq, by first | trivial | exact rfl | decide, fun od => ?_⟩
    refine locks_go qs ms' (upd H q (.frz od (.dK (mpK m)))) ⟨by have := d.len; simpa using this, fun i p m' h1 h2 => ?_⟩ n.2 fun HL D' hl hk hd => ?_
    · have hp : p ≠ q := fun e => n.1 (by rw [← e]; exact List.mem_of_getElem? h1)
      rw [upd_ne hp]
      exact d.at_ (i + 1) p m' h1 h2
    · have hLq : HL q = some (.frz od (.dK (mpK m))) := by rw [hk q n.1]; exact upd_same
      refine k HL D' (fun i p m' h1 h2 => ?_) (fun a ha => ?_) fun σ' H' s h => hd σ' H' s fun H'' h1 h2 => ?_
      · cases i with
        | zero =>
          obtain rfl : q = p := by simpa using h1
          obtain rfl : m = m' := by simpa using h2
          exact ⟨od, hLq⟩
        | succ i => exact hl i p m' h1 h2
      · rw [hk a (fun z => ha (.tail _ z)), upd_ne (fun e => ha (by rw [e]; exact .head _))]
      · have e1 : H'' q = some (.frz od (.dK (mpK m))) := by rw [h1 q n.1]; exact s _ _ hLq
        refine ⟨e1, h _ (fun a ha => ?_) ⟨d.len, fun i p m' g1 g2 => ?_⟩⟩
        · rw [upd_ne (fun e => ha (by rw [e]; exact .head _))]
          exact h1 a (fun z => ha (.tail _ z))
        · cases i with
          | zero =>
            obtain rfl : q = p := by simpa using g1
            obtain rfl : m = m' := by simpa using g2
            exact upd_same
          | succ i =>
            have g1' : qs[i]? = some p := g1
            have hp : p ≠ q := fun e => n.1 (by rw [← e]; exact List.mem_of_getElem? g1')
            rw [upd_ne hp]
            exact h2.at_ i p m' g1' g2
end G
namespace G
open PySem PySem.Spec PyProof.Rows L2
/-! ### a walk over a list or a tuple -/
def SqB (K : PySem.W.Frag) (H : Hp) (a : Addr) (xs : List V) (b : Bool) : Prop := cond b (SqL K H a xs) (SqT K H a xs)
def Itb (K : PySem.W.Frag) (a : Addr) (b : Bool) : It := cond b (Itl K a) (Itt K a)
def iLT (K : PySem.W.Frag) (te : TE) : TI := fun σ H R => ∃ b : Bool, te σ H fun x H1 => ∃ a, x = .ref a ∧ (∃ xs, SqB K H1 a xs b) ∧ R (Itb K a b) H1
theorem pi_lt {Γ : Gm} {X : Cx} {tg e : Expr} {te : TE} (g : Good Γ X) (h : PE X e te) : PI X tg e (iLT Γ.K te) := by
  refine ⟨fun pins s σ H R I ⟨b, hw⟩ => ?_⟩
  cases b with
  | true => exact (pi_l g h).run pins s σ H R I hw
  | false => exact (pi_t g h).run pins s σ H R I hw
theorem SqB.same {K : PySem.W.Frag} {H H' : Hp} {a : Addr} {xs : List V} {b : Bool} (h : SqB K H a xs b) (s : Same H H') : SqB K H' a xs b := by
  cases b with
  | true => exact (Fr.of (S := []) s).sql h List.not_mem_nil
  | false => exact (Fr.of (S := []) s).sqt h List.not_mem_nil
theorem lp_lt {a : Addr} {xs : List V} {g : TG} {tb : TS} {D : Ends} {σ : L2.St} {H : Hp} {K : PySem.W.Frag} (b : Bool) (Pv : Nat → L2.St → Hp → Prop) (h0 : Pv 0 σ H) (hl : ∀ i σ H, i ≤ xs.length → Pv i σ H → SqB K H a xs b)
    (hs : ∀ i x σ H, xs[i]? = some x → Pv i σ H → g x σ H fun σ2 H2 => tb ⟨Pv (i + 1), D.rt, D.nx, Pv (i + 1)⟩ σ2 H2) (hd : ∀ σ H, Pv xs.length σ H → D.nx σ H) : LP (Itb K a b) g tb D σ H := by
  cases b with
  | true => exact lp_list Pv h0 hl hs hd
  | false => exact lp_tup Pv h0 hl hs hd
theorem _root_.List.set_getElem?_self' {α : Type} {l : List α} {i : Nat} {a : α} (h : l[i]? = some a) : l.set i a = l := by
  refine List.ext_getElem? fun j => ?_
  rw [List.getElem?_set]
  split
  · rename_i e
    subst e
    have hi := (List.getElem?_eq_some_iff.mp h).1
    rw [if_pos hi, h]
  · rfl
/-! ### reading lists of a table -/
theorem at_nat {xs : List V} {i : Nat} {v : V} (h : xs[i]? = some v) : atI xs (i : Int) = some v := atI_nat h
theorem Mks.get {K : PySem.W.Frag} {H : Hp} {ts : List Addr} {rows : List (List Str × Int)} (h : Mks K H ts rows) {i : Nat} {r : List Str × Int} (e : rows[i]? = some r) : ∃ t, ts[i]? = some t ∧ SqT K H t (r.1.map V.str) := by
  have hi := (List.getElem?_eq_some_iff.mp e).1
  obtain ⟨t, ht⟩ : ∃ t, ts[i]? = some t := ⟨_, List.getElem?_eq_getElem (by rw [h.len]; exact hi)⟩
  exact ⟨t, ht, h.at_ i t r ht e⟩
theorem Mks.set {K : PySem.W.Frag} {H : Hp} {ts : List Addr} {rows : List (List Str × Int)} (h : Mks K H ts rows) {i : Nat} {t : Addr} {r : List Str × Int} (e : SqT K H t (r.1.map V.str)) : Mks K H (ts.set i t) (rows.set i r) := by
  refine ⟨by rw [List.length_set, List.length_set]; exact h.len, fun j u v a b => ?_⟩
  rw [List.getElem?_set] at a b
  by_cases hij : i = j
  · rw [if_pos hij] at a b
    split at a
    · split at b
      · obtain rfl := Option.some.inj a
        obtain rfl := Option.some.inj b
        exact e
      · cases b
    · cases a
  · rw [if_neg hij] at a b
    exact h.at_ j u v a b
/-- e.f of a table -/
theorem wa_tb {Γ : Gm} {l : Nat} {C : Addr} {A : TAd} {T : Tb} {H : Hp} {f : Str} {v : V} {Q : VK} (c : Cls Γ.K C) (k : NoAttr Γ.K C f) (h : TbP Γ.K C A T H) (e : A.fs.lookup f = some v) (q : Q v H) : WA (Γ.at l) f (.ref A.a) H Q := wa_fld (Γ := Γ.at l) c k h.ins e q
/-- what the text has of the class of tables -/
structure KT (Γ : Gm) (C : Addr) : Prop where
  k : Kls Γ C
  mg : Γ.mg "Table" = some (.ref C)
  n1 : NoAttr Γ.K C "sorts"
  n2 : NoAttr Γ.K C "nexts"
  n3 : NoAttr Γ.K C "befores"
  n4 : NoAttr Γ.K C "facts"
  n5 : NoAttr Γ.K C "numbers"
  sq : PySem.W.noSeq Γ.K C = true
  gi : ∀ f, Meth Γ.K C "__getitem__" f → PySem.W.fnIn Γ.K f = true
section
variable {Γ : Gm} {C : Addr} {A : TAd} {T : Tb} {H : Hp} {Q : VK} {l : Nat}
theorem KT.so (t : KT Γ C) (h : TbP Γ.K C A T H) (q : Q (.ref A.ps) H) : WA (Γ.at l) "sorts" (.ref A.a) H Q := wa_tb t.k.cls t.n1 h (by rfl) q
theorem KT.nx (t : KT Γ C) (h : TbP Γ.K C A T H) (q : Q (.ref A.pn) H) : WA (Γ.at l) "nexts" (.ref A.a) H Q := wa_tb t.k.cls t.n2 h (by rfl) q
theorem KT.bf (t : KT Γ C) (h : TbP Γ.K C A T H) (q : Q (.ref A.pb) H) : WA (Γ.at l) "befores" (.ref A.a) H Q := wa_tb t.k.cls t.n3 h (by rfl) q
theorem KT.fa (t : KT Γ C) (h : TbP Γ.K C A T H) (q : Q (.ref A.pf) H) : WA (Γ.at l) "facts" (.ref A.a) H Q := wa_tb t.k.cls t.n4 h (by rfl) q
theorem KT.nu (t : KT Γ C) (h : TbP Γ.K C A T H) (q : Q (.ref A.pm) H) : WA (Γ.at l) "numbers" (.ref A.a) H Q := wa_tb t.k.cls t.n5 h (by rfl) q
/-- a method found at a table -/
theorem tb_meth {n : Nat} {m : Str} {sp : Sp} {P : Prop} (h : TbP Γ.K C A T H) (l : A.fs.lookup m = none) (k : ∀ dx, H A.a = some (.ins C dx A.fs) → A.fs.lookup m = none → P) : P := k A.dx h.ins l
end
end G
namespace L2
open PySem PySem.Spec PyProof.Rows
section
variable {P : Program} {w : World} {A : Around} {E : Value → Shared → Prop} {s : Shared}
theorem call_set_strsT {l : Addr} {items : Array Value} (ns : List Str) {Q : Value → Shared → Prop} (hh : A.handled = none) (hl : s.heap.IsTuple l items) (hit : StrsAre items.toList ns) (hb : ns.length + 1 < scanBound)
    (h : ∀ (h' : Heap) (tk : Nat), SetS P w h' s.heap.objs.size (metS ns.reverse) → (∀ b o, s.heap.get? b = some o → h'.get? b = some o) → Q (.ref s.heap.objs.size) { s with heap := h', toks := tk }) :
    wpAny (model P w) A (call (.type "set") [.ref l]) Q E s := by
  have hisz : items.size = ns.length := by
    have q := hit.length
    rw [Array.length_toList] at q
    exact q
  obtain ⟨c, tl, hmro⟩ := F.called_set.mro
  have hmade := F.called_set.made
  have hsub := F.called_set.sub
  refine wpAny_call (codeAny_of_tree ?_)
  show wpAny _ _ (callAny (.type "set") _) _ _ _
  refine wpAny_pure ⟨Code.quiet_builtin _ (by decide +kernel), codeAny_builtin F.entry_type_call ?_⟩
  rw [Around.under_plain (weight_type_call_type "set" [.ref l] []) rfl]
  have h1 := F.called_set.notType
  have h2 := F.called_set.canCreate
  have hct := F.typeCall_set_1 (.ref l)
  repeat (any_goals (first | assumption | wp_step))
  refine codeAny_mono (code_set_led1 (.ref l) (E := E) (Q₁ := fun obj s₁ => obj = .ref s.heap.objs.size ∧ s₁ = { s with heap := s.heap.push { cls := .type "set", dict := none, data := .set #[] 0 (.fresh 0 0 (!w.params.followText "set-order")) } }) ⟨rfl, rfl⟩) fun r s₁ hr => ?_
  cases r with
  | error e => exact hr
  | ok fl =>
    cases fl with
    | ret obj =>
      obtain ⟨rfl, rfl⟩ := hr
      have hS : (s.heap.push { cls := .type "set", dict := none, data := .set #[] 0 (.fresh 0 0 (!w.params.followText "set-order")) }).get? s.heap.objs.size = some { cls := .type "set", dict := none, data := .set #[] 0 (.fresh 0 0 (!w.params.followText "set-order")) } := Heap.get?_push_size _ rfl
      have hT : Shared.TypeIs { s with heap := s.heap.push { cls := .type "set", dict := none, data := .set #[] 0 (.fresh 0 0 (!w.params.followText "set-order")) } } (.ref s.heap.objs.size) "set" := ⟨_, hS, rfl⟩
      have hli := F.called_set.init.lookup
      have hbi := F.called_set.init.bind (.ref s.heap.objs.size)
      repeat (any_goals (first | assumption | wp_step))
      refine codeAny_mono (codeAny_call_builtin (R := wants (fun r s₂ => r = .none ∧ ∃ h' tk, s₂ = { s with heap := h', toks := tk } ∧ SetS P w h' s.heap.objs.size (metS ns.reverse) ∧
          (∀ b o, s.heap.get? b = some o → h'.get? b = some o)) E) F.called_set.init.plain F.entry_set_init (check_set_init_1 hT ?_)) fun r₂ s₂ hr₂ => ?_
      · obtain ⟨ol, hol, hcl, nl, hdl⟩ := hl
        obtain ⟨ocls, odict, odata, oslots⟩ := ol
        simp only at hcl hdl
        subst hcl; subst hdl
        have hol' : (s.heap.push { cls := .type "set", dict := none, data := .set #[] 0 (.fresh 0 0 (!w.params.followText "set-order")) }).get? l = some { cls := .type "tuple", dict := odict, data := .seq items nl, slots := oslots } := Heap.get?_push_of_some _ hol
        have hsls := F.sub_tuple_set
        have hslf := F.sub_tuple_frozenset
        have hne : (Value.type "tuple" == Value.type "dict") = false := by decide
        have hl1 : (s.heap.push { cls := .type "set", dict := none, data := .set #[] 0 (.fresh 0 0 (!w.params.followText "set-order")) }).IsTuple l items := ⟨_, hol', rfl, nl, rfl⟩
        unfold Builtin.«set.__init__» noKeywords Builtin.Frozenset.updateFrom
        generalize hPI : pyIter = PI
        wp_walk
        subst hPI
        refine wpAny_pyIter_tuple hl1 ?_
        refine wpAny_bind (wpAny_runValue ?_)
        have hlS : l < s.heap.objs.size := Heap.lt_size hol
        have hh3 : A.in1.in1.in1.handled = none := by simp [hh]
        have hneI : l ≠ (s.heap.push { cls := .type "set", dict := none, data := .set #[] 0 (.fresh 0 0 (!w.params.followText "set-order")) }).objs.size := by
          rw [Heap.size_push]; exact Nat.ne_of_lt (Nat.lt_succ_of_lt hlS)
        have hSf : s.heap.objs.size ∉ [(s.heap.push { cls := .type "set", dict := none, data := .set #[] 0 (.fresh 0 0 (!w.params.followText "set-order")) }).objs.size, l] := by
          rw [Heap.size_push]; simp only [List.mem_cons, List.mem_singleton, List.not_mem_nil, or_false, not_or]
          exact ⟨Nat.ne_of_lt (Nat.lt_succ_self _), Nat.ne_of_gt hlS⟩
        have hval : ∀ (i : Nat) (v : Value), items[i]? = some v → ∃ k t, ns[i]? = some k ∧ v = .str k t := fun i v hv => by
          have q : items.toList[i]? = some v := by rw [Array.getElem?_toList]; exact hv
          have hi : i < ns.length := by rw [← hisz]; rw [← Array.length_toList]; exact (List.getElem?_eq_some_iff.mp q).1
          obtain ⟨t, ht⟩ := hit.get i _ (List.getElem?_eq_getElem hi)
          exact ⟨_, t, List.getElem?_eq_getElem hi, Option.some.inj (q.symm.trans ht)⟩
        refine setS_update ((Walks.tuple hh3 _ l hneI items).toS) s.heap.objs.size hSf ns hisz hb hval (items.size - 0) 0 _ (by omega) (Nat.zero_le _)
          ⟨⟨_, Heap.get?_push_size _ rfl, rfl, rfl⟩, (hl1.push _)⟩ (setS_fresh (Heap.get?_push_of_some _ hS)) ?hR
        case hR =>
          intro s' hm hS'
          have old : ∀ b o, s.heap.get? b = some o → s'.heap.get? b = some o := fun b o e => by
            have hb' : b < s.heap.objs.size := Heap.lt_size e
            refine hm.heap b o (fun z => ?_) (Heap.get?_push_of_some _ (Heap.get?_push_of_some _ e))
            rcases List.mem_cons.mp z with z | z
            · exact Nat.ne_of_lt hb' z
            · rw [Heap.size_push] at z
              exact Nat.ne_of_lt (Nat.lt_succ_of_lt hb') (List.mem_singleton.mp z)
          obtain ⟨h', g2, d', tk', os'⟩ := s'
          have eg : g2 = s.gens := hm.gens
          have ed : d' = s.drawn := hm.drawn
          have eo : os' = s.os := hm.os
          subst eg; subst ed; subst eo
          show wpAny _ _ _ _ _ _
          refine wpAny_pure ?_
          show wpAny _ _ (ret Value.none) _ _ _
          exact wpAny_pure ⟨rfl, h', tk', rfl, hS', old⟩
      · cases r₂ with
        | error e => exact hr₂
        | ok fl₂ =>
          cases fl₂ with
          | ret r =>
            obtain ⟨rfl, h', tk, rfl, hS', hk'⟩ := hr₂
            repeat (any_goals (first | assumption | wp_step))
            exact h _ _ hS' hk'
          | _ => exact hr₂.elim
    | _ => exact hr.elim
end
end L2
/-! sorted(list of data); set(tuple of texts); comprehensions of two clauses -/
namespace G
open PySem PySem.Spec PyProof.Rows L2
theorem each_rel : ∀ (es : List (V × PyData)) (its : List Value), Vals (es.map (·.1)) its → PySem.W.EachIs (fun v (b : V × PyData) => RelV b.1 v) its es
  | [], [], .nil => .nil
  | _ :: es, _ :: its, .cons r rs => .cons r (each_rel es its rs)
theorem each_back : ∀ {es : List (V × PyData)} {its : List Value}, PySem.W.EachIs (fun v (b : V × PyData) => RelV b.1 v) its es → Vals (es.map (·.1)) its
  | [], [], .nil => .nil
  | _ :: es, _ :: its, .cons r rs => .cons r (each_back rs)
theorem each_reads {X : Cx} {pins : List (Addr × Obj)} {σ : L2.St} {H : Hp} {s : Shared} (I : Inv X pins σ H s) : ∀ (es : List (V × PyData)) (its : List Value), Vals (es.map (·.1)) its → (∀ e ∈ es, Dp X.K H e.1 e.2) → PySem.W.EachIs (fun v (b : V × PyData) => ∃ as, Reads s.heap v b.2 as) its es
  | [], [], .nil, _ => .nil
  | e :: es, u :: its, .cons r rs, h => .cons (Dp.reads I e.2 e.1 u (h e (.head _)) r) (each_reads I es its rs fun x hx => h x (.tail _ hx))
def rSortD (K : PySem.W.Frag) : List V → Hp → VK → Prop := fun vs H Q => ∃ (a : Addr) (es : List (V × PyData)), vs = [V.ref a] ∧ SqL K H a (es.map (·.1)) ∧ (∀ e ∈ es, Dp K H e.1 e.2) ∧ PySem.W.AllAlike (es.map (·.2)) ∧ PySem.W.Sortable (es.map (·.2)) ∧ (∀ e ∈ es, e.2.depth ≤ 40) ∧
  ∀ p, H p = none → Q (.ref p) (upd H p (.lst ((es.mergeSort (PySem.W.dataLe false (·.2))).map (·.1))))
theorem cr_sortD {X : Cx} (hu : X.A.units + 64 < cLine) : CallR X (.builtin "sorted") (rSortD X.K) := by
  intro pins s σ H vs us Q I r h
  obtain ⟨a, es, rfl, hs, hd, ha, hk, hz, q⟩ := h
  obtain ⟨its, rv, hl, hz2⟩ := I.list hs
  rw [Vals.ref1 r]
  refine PySem.W.sorted_data (enc := (·.2)) (R := fun v (b : V × PyData) => RelV b.1 v) hl.isList (each_rel es its rv) (each_reads I es its rv hd) ha hk (by rw [List.length_map] at hz2; exact hz2) (fun b hb => by have := hz b hb; omega) fun out h1 h2 => ?_
  have hv := each_back h2
  obtain ⟨ep, he'⟩ := PyProof.Rows.sortedAll_at s.heap its out.toArray
  have hlen : ((es.mergeSort (PySem.W.dataLe false (·.2))).map (·.1)).length ≤ sizeLine := by
    rw [List.length_map, List.length_mergeSort]
    rw [List.length_map] at hz2
    exact hz2
  exact ⟨.ref _, upd H (s.heap.objs.size + 1) (.lst ((es.mergeSort (PySem.W.dataLe false (·.2))).map (·.1))), I.laid (t' := s.toks) (fun _ _ => PyProof.Rows.sortedAll_old) (Nat.le_succ _) ⟨hlen, out, ep, hv, he'⟩, rfl, q _ (I.hok.fresh (Nat.le_succ _))⟩
section
variable {Γ : Gm} {H : Hp} {Q : VK}
theorem wc_sortD {a : Addr} {es : List (V × PyData)} (hs : SqL Γ.K H a (es.map (·.1))) (hd : ∀ e ∈ es, Dp Γ.K H e.1 e.2) (ha : PySem.W.AllAlike (es.map (·.2))) (hk : PySem.W.Sortable (es.map (·.2))) (hz : ∀ e ∈ es, e.2.depth ≤ 40)
    (q : ∀ p, H p = none → Q (.ref p) (upd H p (.lst ((es.mergeSort (PySem.W.dataLe false (·.2))).map (·.1))))) : WC Γ (.builtin "sorted") [.ref a] H Q :=
  ⟨rSortD Γ.K, fun X g => (by have := cr_sortD (X := X) (Nat.lt_of_le_of_lt (Nat.le_refl _) g.hu64); rw [g.K] at this; exact this), a, es, rfl, hs, hd, ha, hk, hz, q⟩
def rSetT (K : PySem.W.Frag) (P : Program) (w : World) : List V → Hp → VK → Prop := fun xs H Q => ∃ (l : Addr) (ns : List Str), xs = [V.ref l] ∧ SqT K H l (ns.map V.str) ∧ ns.length < 3000 ∧ ∀ a, H a = none → Q (.ref a) (upd H a (SetSO P w a (metS ns.reverse)))
theorem cr_setT {X : Cx} (hc : X.calm = true) : CallR X (.type "set") (rSetT X.K X.prog X.w) := by
  intro pins s σ H xs us Q I r h
  obtain ⟨l, ns, rfl, hl, hf, q⟩ := h
  rw [Vals.ref1 r]
  obtain ⟨its, rv, pl, hz⟩ := I.tuple hl
  have hn : H s.heap.objs.size = none := I.hok.fresh (Nat.le_refl _)
  refine call_set_strsT (P := X.prog) (w := X.w) ns (I.ok.hd hc) (show s.heap.IsTuple l its.toArray from pl) (by simpa using rv.strs) (by unfold scanBound; omega) fun h' tk R k => ?_
  exact ⟨.ref s.heap.objs.size, upd H s.heap.objs.size (SetSO X.prog X.w s.heap.objs.size (metS ns.reverse)), I.laid (t' := tk) k (Nat.le_refl _) (setSO_new R), rfl, q _ hn⟩
theorem wc_setT {l : Addr} {ns : List Str} (m : SqT Γ.K H l (ns.map V.str)) (hl : ns.length < 3000) (q : ∀ a, H a = none → Q (.ref a) (upd H a (SetSO Γ.P Γ.w a (metS ns.reverse)))) : WC Γ (.type "set") [.ref l] H Q :=
  ⟨rSetT Γ.K Γ.P Γ.w, fun X g => (by have := cr_setT (X := X) g.calm; rw [g.K, g.P, g.w] at this; exact this), l, ns, rfl, m, hl, q⟩
end
/-! ### two clauses -/
def LI (J1 : It) (g1 : TG) (tt1 : TT) (te : TE) (vs1 : List Nat) (σ2 : L2.St) (D : Addr) (N : Hp → Prop) (H4 : Hp) : Prop := ∃ W1 : Nat → Nat → Hp → Prop, (∃ m, W1 0 m H4) ∧ ∀ j k H, W1 j k H →
      (J1.stop j H ∧ N H) ∨ (J1.go j H ∧ ∃ Nx1 : Hp → Prop, (∀ H', Nx1 H' → ∃ k', k' < k ∧ W1 (j + 1) k' H') ∧ ∀ x H', J1.yld j H x H' → g1 x (wipe σ2 vs1) H' fun σ3 H5 => wipe σ3 vs1 = wipe σ2 vs1 ∧ tt1 σ3 H5 fun b H6 =>
        if b = true then te σ3 H6 fun y H7 => ∃ acc, H7 D = some (.lst acc) ∧ acc.length < sizeLine ∧ Nx1 (upd H7 D (.lst (acc ++ [y]))) else Nx1 H6)
def LQ2 (J : It) (g : TG) (tt : TT) (wi1 : TI) (g1 : TG) (tt1 : TT) (te : TE) (vs vs1 : List Nat) (σ : L2.St) (D : Addr) (Q : VK) (H1 : Hp) : Prop := ∃ W : Nat → Nat → Hp → Prop, (∃ m, W 0 m (upd H1 D (.lst []))) ∧ ∀ i m H, W i m H →
  (J.stop i H ∧ Q (.ref D) H) ∨ (J.go i H ∧ ∃ Nx : Hp → Prop, (∀ H', Nx H' → ∃ m', m' < m ∧ W (i + 1) m' H') ∧ ∀ x H', J.yld i H x H' → g x (wipe σ vs) H' fun σ2 H2 => wipe σ2 vs = wipe σ vs ∧ tt σ2 H2 fun b H3 =>
    if b = true then wi1 σ2 H3 fun J1 H4 => LI J1 g1 tt1 te vs1 σ2 D Nx H4 else Nx H3)
theorem tLc2_eq {wi : TI} {g : TG} {tt : TT} {wi1 : TI} {g1 : TG} {tt1 : TT} {te : TE} {vs vs1 : List Nat} {σ : L2.St} {H : Hp} {Q : VK} : tLc2 wi g tt wi1 g1 tt1 te vs vs1 σ H Q = wi σ H fun J H1 => ∀ D, H1 D = none → LQ2 J g tt wi1 g1 tt1 te vs vs1 σ D Q H1 := rfl
section
variable {J J1 : It} {n : Nat} {G : Hp → Prop} {Y : Nat → Hp → V → Hp → Prop}
theorem li_it (w : Walk J1 n G Y) {g1 : TG} {tt1 : TT} {te : TE} {vs1 : List Nat} {σ2 : L2.St} {D : Addr} {N : Hp → Prop} {H4 : Hp} (Pv : Nat → Hp → Prop) (h0 : Pv 0 H4) (hG : ∀ i H, i ≤ n → Pv i H → G H)
    (hs : ∀ j x H H', j < n → Pv j H → Y j H x H' → g1 x (wipe σ2 vs1) H' fun σ3 H5 => wipe σ3 vs1 = wipe σ2 vs1 ∧ tt1 σ3 H5 fun b H6 =>
      br b (te σ3 H6 fun y H7 => ∃ acc, H7 D = some (.lst acc) ∧ acc.length < sizeLine ∧ Pv (j + 1) (upd H7 D (.lst (acc ++ [y])))) (Pv (j + 1) H6)) (hd : ∀ H, Pv n H → N H) : LI J1 g1 tt1 te vs1 σ2 D N H4 := by
  refine ⟨fun i m H => m = n - i ∧ i ≤ n ∧ Pv i H, ⟨n, by simp, Nat.zero_le _, h0⟩, ?_⟩
  rintro i m H ⟨rfl, hi, p⟩
  have q := hG i H hi p
  by_cases hlt : i < n
  · refine .inr ⟨w.goes i H hlt q, Pv (i + 1), fun H' p' => ⟨n - (i + 1), by omega, rfl, hlt, p'⟩, fun x H' y => ?_⟩
    have := hs i x H H' hlt p (w.yields i H x H' hlt q y)
    simp only [← br_eq] at this
    exact this
  · have e : i = n := by omega
    subst e
    exact .inl ⟨w.stops H q, hd H p⟩
theorem lq2_it (w : Walk J n G Y) {g : TG} {tt : TT} {wi1 : TI} {g1 : TG} {tt1 : TT} {te : TE} {vs vs1 : List Nat} {σ : L2.St} {D : Addr} {Q : VK} {H1 : Hp} (Pv : Nat → Hp → Prop) (h0 : Pv 0 (upd H1 D (.lst []))) (hG : ∀ i H, i ≤ n → Pv i H → G H)
    (hs : ∀ i x H H', i < n → Pv i H → Y i H x H' → g x (wipe σ vs) H' fun σ2 H2 => wipe σ2 vs = wipe σ vs ∧ tt σ2 H2 fun b H3 =>
      br b (wi1 σ2 H3 fun J1 H4 => LI J1 g1 tt1 te vs1 σ2 D (Pv (i + 1)) H4) (Pv (i + 1) H3)) (hd : ∀ H, Pv n H → Q (.ref D) H) : LQ2 J g tt wi1 g1 tt1 te vs vs1 σ D Q H1 := by
  refine ⟨fun i m H => m = n - i ∧ i ≤ n ∧ Pv i H, ⟨n, by simp, Nat.zero_le _, h0⟩, ?_⟩
  rintro i m H ⟨rfl, hi, p⟩
  have q := hG i H hi p
  by_cases hlt : i < n
  · refine .inr ⟨w.goes i H hlt q, Pv (i + 1), fun H' p' => ⟨n - (i + 1), by omega, rfl, hlt, p'⟩, fun x H' y => ?_⟩
    have := hs i x H H' hlt p (w.yields i H x H' hlt q y)
    simp only [← br_eq] at this
    exact this
  · have e : i = n := by omega
    subst e
    exact .inl ⟨w.stops H q, hd H p⟩
end
theorem walk_itemsF {d : Addr} {o : Obj} {kvs : List (Key × V)} : Walk (Iti d o kvs) kvs.length (fun H => H d = some (.frz o (.dK kvs))) (fun i H x H' => ∃ T k v, kvs[i]? = some (k, v) ∧ x = .ref T ∧ H T = none ∧ H' = upd H T (.tup [kV k, v])) :=
  ⟨fun i H hi q => ⟨q, hi⟩, fun H q => ⟨q, Nat.le_refl _⟩, fun i H x H' hi q y => y⟩
end G
/-! making a table -/
namespace G
open PySem PySem.Spec PyProof.Rows L2
theorem Pick.app {α : Type} {l t : List α} {r r' : α} : Pick (l ++ r :: t) r (l ++ r' :: t) r' := by
  induction l with
  | nil => exact .here
  | cons x l ih => exact .next ih
section
variable {E : Hv}
theorem fps_app (l t : List (RS E)) : fps (l ++ t) = fps l ++ fps t := by
  induction l with
  | nil => rfl
  | cons x l ih => rw [List.cons_append]; show x.fp ++ fps (l ++ t) = (x.fp ++ fps l) ++ fps t; rw [ih, List.append_assoc]
theorem ows_app (l t : List (RS E)) : ows (l ++ t) = ows l ++ ows t := by
  induction l with
  | nil => rfl
  | cons x l ih => rw [List.cons_append]; show (if x.ro then [] else x.fp) ++ ows (l ++ t) = ((if x.ro then [] else x.fp) ++ ows l) ++ ows t; rw [ih, List.append_assoc]
/-- cells alike -/
def cells (o : HO) (qs : List Addr) : List (RS E) := qs.map fun a => cellR a o
theorem fps_cells (o : HO) (qs : List Addr) : fps (cells (E := E) o qs) = qs := by
  induction qs with
  | nil => rfl
  | cons q qs ih => show [q] ++ fps (cells o qs) = q :: qs; rw [ih]; rfl
theorem ows_cells (o : HO) (qs : List Addr) : ows (cells (E := E) o qs) = qs := by
  induction qs with
  | nil => rfl
  | cons q qs ih => show [q] ++ ows (cells o qs) = q :: qs; rw [ih]; rfl
theorem mem_cells {o : HO} {qs : List Addr} {q : Addr} (h : q ∈ qs) : cellR (E := E) q o ∈ cells o qs := List.mem_map.mpr ⟨q, h, rfl⟩
/-- at the entry: one cell -/
theorem SS.cell1 {H : Hp} {p : Addr} {o : HO} (h : H p = some o) (n : ¬ Imm E.MC o) : SS E H [p] H [] [cellR p o] := SS.start (E := E) (F := []) (R := [cellR p o]) (fun _ h => nomatch h) (fun x hx => by
    cases hx with
    | head => exact h
    | tail _ z => cases z) (List.nodup_cons.mpr ⟨List.not_mem_nil, List.nodup_nil⟩) fun a ha => by
    cases ha with
    | head => exact ⟨_, h, n⟩
    | tail _ z => cases z
end
theorem kdK_snoc {ks : List Str} {qs : List Addr} {k : Str} {q : Addr} (h : ks.length = qs.length) : kdK (ks ++ [k]) (qs ++ [q]) = kdK ks qs ++ [(Sum.inr k, V.ref q)] := by
  unfold kdK
  rw [List.zip_append h, List.map_append]
  rfl
theorem valK_none {ks : List Str} {qs : List Addr} {k : Str} (h : k ∉ ks) : valV (kdK ks qs) (Sum.inr k) = none := by
  induction ks generalizing qs with
  | nil => rfl
  | cons k0 ks ih =>
    cases qs with
    | nil => rfl
    | cons q0 qs =>
      have hn : ¬ (Sum.inr k0 : Key) = Sum.inr k := fun e => h (by injection e with e; rw [e]; exact .head _)
      show valV ((Sum.inr k0, V.ref q0) :: kdK ks qs) (Sum.inr k) = _
      rw [valV_neg hn]
      exact ih fun z => h (.tail _ z)
theorem sqt_fr1 {K : PySem.W.Frag} {H H' : Hp} {x q C dx : Addr} {xs : List V} {fs : List (Str × V)} (h : SqT K H q xs) (f : Fr [x] H H') (hx : H x = some (.ins C dx fs)) : SqT K H' q xs := by
  rcases h with (h | ⟨o, h⟩) | h
  · exact .inl (.inl (f _ _ (fun z => by rw [List.mem_singleton.mp z, hx] at h; cases h) h))
  · exact .inl (.inr ⟨o, f _ _ (fun z => by rw [List.mem_singleton.mp z, hx] at h; cases h) h⟩)
  · exact .inr h
abbrev EC (Γ : Gm) (C : Addr) : Hv := ⟨Γ.K, fun c => c = C⟩
theorem ins_mut {Γ : Gm} {C dx : Addr} {fs : List (Str × V)} : ¬ Imm (EC Γ C).MC (.ins C dx fs) := fun h => h rfl
/-- the table as it stands once it is made -/
theorem made_tb {Γ : Gm} {C x dx q D1 D2 pf pm : Addr} {qs rs : List Addr} {ys : List Str} {H0 H : Hp} {F : List (PF (EC Γ C))}
    (s : SS (EC Γ C) H0 [x] H F (cellR pm (.lst []) :: cellR pf (.lst []) :: (cells (.dK []) rs.reverse ++ cellR D2 (.dK (kdK ys rs)) :: (cells (.dK []) qs.reverse ++ [cellR D1 (.dK (kdK ys qs)), cellR x (.ins C dx [("sorts", .ref q), ("nexts", .ref D1), ("befores", .ref D2), ("facts", .ref pf), ("numbers", .ref pm)])]))))
    (hq : SqT Γ.K H q (ys.map V.str)) (ay : Asc ys) (lq : qs.length = ys.length) (lr : rs.length = ys.length) :
    TbP Γ.K C ⟨x, dx, q, D1, D2, pf, pm, qs, rs⟩ ⟨ys, [], List.replicate ys.length [], List.replicate ys.length []⟩ H ∧ ∀ a ∈ (⟨x, dx, q, D1, D2, pf, pm, qs, rs⟩ : TAd).fp, H0 a = none := by
  have nd := s.nd
  have ow := s.ow
  simp only [fps, ows, fps_app, ows_app, fps_cells, ows_cells] at nd ow
  have perm : (([pm] ++ ([pf] ++ (rs.reverse ++ ([D2] ++ (qs.reverse ++ ([D1] ++ ([x] ++ []))))))).Perm ((⟨x, dx, q, D1, D2, pf, pm, qs, rs⟩ : TAd).fp ++ [x])) := by
    rw [List.perm_iff_count]
    intro a
    simp only [TAd.fp, List.count_append, List.count_cons, List.count_reverse, List.count_nil]
    omega
  have nd2 := perm.nodup_iff.mp nd
  have n3 := List.nodup_append.mp nd2
  refine ⟨⟨s.cell (b := false) (.tail _ (.tail _ (List.mem_append_right _ (.tail _ (List.mem_append_right _ (.tail _ (.head _))))))), hq, s.cell (p := D1) (b := false) (.tail _ (.tail _ (List.mem_append_right _ (.tail _ (List.mem_append_right _ (.head _)))))), s.cell (p := D2) (b := false) (.tail _ (.tail _ (List.mem_append_right _ (.head _)))), ⟨[], s.cell (p := pf) (b := false) (.tail _ (.head _)), ⟨rfl, fun i t r h => by simp at h⟩⟩, s.cell (p := pm) (b := false) (.head _), ⟨by rw [lq, List.length_replicate], fun i a m h1 h2 => ?_⟩, ⟨by rw [lr, List.length_replicate], fun i a m h1 h2 => ?_⟩, List.length_replicate, List.length_replicate, n3.1, ay, fun _ h => nomatch h⟩, fun a ha => ?_⟩
  · obtain rfl : m = [] := by
      rw [List.getElem?_replicate] at h2
      split at h2
      · exact (Option.some.inj h2).symm
      · cases h2
    refine s.cell (p := a) (o := .dK []) (b := false) ?_
    refine .tail _ (.tail _ (List.mem_append_right _ (.tail _ (List.mem_append_left _ (mem_cells (List.mem_reverse.mpr (List.mem_of_getElem? h1)))))))
  · obtain rfl : m = [] := by
      rw [List.getElem?_replicate] at h2
      split at h2
      · exact (Option.some.inj h2).symm
      · cases h2
    refine s.cell (p := a) (o := .dK []) (b := false) ?_
    refine .tail _ (.tail _ (List.mem_append_left _ (mem_cells (List.mem_reverse.mpr (List.mem_of_getElem? h1)))))
  · have hax : a ≠ x := fun e => n3.2.2 a ha x (.head _) e
    have hm : a ∈ [pm] ++ ([pf] ++ (rs.reverse ++ ([D2] ++ (qs.reverse ++ ([D1] ++ ([x] ++ [])))))) := perm.mem_iff.mpr (List.mem_append_left _ ha)
    rcases ow a (by simpa [cellR] using hm) with h | h
    · exact absurd (List.mem_singleton.mp h) hax
    · exact h
end G
/-! a law's own list of (names, number) -/
namespace G
open PySem PySem.Spec PyProof.Rows L2
/-- two things become one -/
theorem SS.mergeU {E : Hv} {H0 H H' : Hp} {S0 : List Addr} {F : List (PF E)} {R R' : List (RS E)} {r1 r2 r3 : RS E} (s : SS E H0 S0 H F (r1 :: R)) (p : Pick R r2 R' r3) (o1 : r1.ro = false) (o2 : r2.ro = false) (k : Fr (r1.fp ++ r2.fp) H H') (h : r3.P H') (nd : r3.fp.Nodup)
    (own : ∀ a ∈ r3.fp, a ∈ r1.fp ∨ a ∈ r2.fp) (tr : ∀ a ∈ r3.fp, ∃ o, H' a = some o ∧ ¬ Imm E.MC o) : SS E H0 S0 H' F R' := by
  have n := List.nodup_append.mp s.nd
  have imm : ∀ a o, H a = some o → Imm E.MC o → a ∉ r1.fp ++ r2.fp := fun a o e i z => by
    have hz : a ∈ fps (r1 :: R) := by
      rcases List.mem_append.mp z with z | z
      · exact List.mem_append_left _ z
      · exact List.mem_append_right _ (mem_fps p.mem a z)
    obtain ⟨u, hu, hi⟩ := s.tr a hz
    rw [e] at hu; cases hu; exact hi i
  have stay : ∀ a o, H a = some o → Imm E.MC o → H' a = some o := fun a o e i => k a o (imm a o e i) e
  have apart := pick_split p n.2.1
  refine ⟨fun x hx => x.loc H H' (fun a o e z => stay a o e (z.resolve_left List.not_mem_nil)) (s.f x hx), fun x hx => ?_, ?_, fun a ha => ?_, fun a o m e => ?_, fun a ha => ?_⟩
  · rcases apart x hx with rfl | ⟨hx, hn⟩
    · exact h
    · refine x.loc H H' (fun a o e z => z.elim (fun z => k a o (fun q => ?_) e) (stay a o e)) (s.r x (.tail _ hx))
      rcases List.mem_append.mp q with q | q
      · exact n.2.2 a q a (mem_fps hx a z) rfl
      · exact hn a z q
  · refine pick_nodup p n.2.1 nd fun a ha => ?_
    rcases own a ha with q | q
    · exact .inr fun z => n.2.2 a q a z rfl
    · exact .inl q
  · rcases fps_mem a ha with ⟨y, hy, hay⟩
    rcases apart y hy with rfl | ⟨hyR, hn⟩
    · exact tr a hay
    · obtain ⟨o, ho, hi⟩ := s.tr a (List.mem_append_right _ (mem_fps hyR a hay))
      refine ⟨o, k a o (fun q => ?_) ho, hi⟩
      rcases List.mem_append.mp q with q | q
      · exact n.2.2 a q a (mem_fps hyR a hay) rfl
      · exact hn a hay q
  · refine k a o (fun q => ?_) (s.fr a o m e)
    have hw : a ∈ S0 ∨ H0 a = none := by
      rcases List.mem_append.mp q with q | q
      · exact s.ow a (mem_ows (.head _) o1 a q)
      · exact s.ow a (mem_ows (.tail _ p.mem) o2 a q)
    rcases hw with hw | hw
    · exact m hw
    · rw [hw] at e; cases e
  · rcases ows_pick p a ha with ⟨q, _⟩ | q
    · rcases own a q with q | q
      · exact s.ow a (mem_ows (.head _) o1 a q)
      · exact s.ow a (mem_ows (.tail _ p.mem) o2 a q)
    · exact s.ow a (List.mem_append_right _ q)
abbrev Rw := List Str × Int
structure LfP (K : PySem.W.Frag) (l : Addr) (es : List (Addr × Addr)) (rows : List Rw) (H : Hp) : Prop where
  ls : H l = some (.lst (es.map fun e => V.ref e.1))
  len : es.length = rows.length
  at_ : ∀ (i : Nat) (e : Addr × Addr) (r : Rw), es[i]? = some e → rows[i]? = some r → SqT K H e.1 [.ref e.2, .int r.2] ∧ H e.2 = some (.lst (r.1.map V.str))
  nd : (l :: es.map (·.2)).Nodup
def lfp (l : Addr) (es : List (Addr × Addr)) : List Addr := l :: es.map (·.2)
section
variable {K : PySem.W.Frag} {l : Addr} {es : List (Addr × Addr)} {rows : List Rw} {H H' : Hp}
theorem LfP.loc {MC : Addr → Prop} : Loc MC (lfp l es) (LfP K l es rows) := fun H H' k h =>
  ⟨k _ _ h.ls (.inl (.head _)), h.len, fun i e r a b => ⟨sqt_loc (fun a o e i => k a o e (i.elim (fun z => nomatch z) .inr)) (h.at_ i e r a b).1, k _ _ (h.at_ i e r a b).2 (.inl (.tail _ (List.mem_map.mpr ⟨e, List.mem_of_getElem? a, rfl⟩)))⟩, h.nd⟩
theorem LfP.cells {MC : Addr → Prop} (h : LfP K l es rows H) : ∀ a ∈ lfp l es, ∃ o, H a = some o ∧ ¬ Imm MC o := fun a ha => by
  rcases List.mem_cons.mp ha with rfl | ha
  · exact ⟨_, h.ls, fun z => z⟩
  · obtain ⟨e, he, rfl⟩ := List.mem_map.mp ha
    obtain ⟨i, hi, e2⟩ := List.mem_iff_getElem.mp he
    have hl := h.len
    exact ⟨_, (h.at_ i e rows[i] (by rw [List.getElem?_eq_getElem hi, e2]) (List.getElem?_eq_getElem (by omega))).2, fun z => z⟩
theorem LfP.get (h : LfP K l es rows H) {i : Nat} {r : Rw} (e : rows[i]? = some r) : ∃ p, es[i]? = some p ∧ SqT K H p.1 [.ref p.2, .int r.2] ∧ H p.2 = some (.lst (r.1.map V.str)) := by
  have hi := (List.getElem?_eq_some_iff.mp e).1
  obtain ⟨p, hp⟩ : ∃ p, es[i]? = some p := ⟨_, List.getElem?_eq_getElem (by rw [h.len]; exact hi)⟩
  exact ⟨p, hp, h.at_ i p r hp e⟩
/-- a row more -/
theorem LfP.app (h : LfP K l es rows H) {T li : Addr} {ns : List Str} {x : Int} (hT : SqT K H T [.ref li, .int x]) (hl : H li = some (.lst (ns.map V.str))) (n : li ∉ lfp l es) :
    LfP K l (es ++ [(T, li)]) (rows ++ [(ns, x)]) (L2.upd H l (.lst (es.map (fun e => V.ref e.1) ++ [.ref T]))) := by
  have im : ¬ Imm (fun _ => False) (.lst (es.map fun e => V.ref e.1)) := fun z => z
  have nn := List.nodup_cons.mp h.nd
  refine ⟨by rw [upd_same, List.map_append]; rfl, by rw [List.length_append, List.length_append, h.len]; rfl, fun i e r a b => ?_, ?_⟩
  · rcases Nat.lt_trichotomy i es.length with hi | hi | hi
    · rw [List.getElem?_append_left hi] at a
      rw [List.getElem?_append_left (by rw [← h.len]; exact hi)] at b
      refine ⟨sqt_upd (h.at_ i e r a b).1 h.ls im, ?_⟩
      rw [upd_ne (fun z => nn.1 (by rw [← z]; exact List.mem_map.mpr ⟨e, List.mem_of_getElem? a, rfl⟩))]
      exact (h.at_ i e r a b).2
    · rw [hi, List.getElem?_append_right (Nat.le_refl _)] at a
      rw [hi, h.len, List.getElem?_append_right (Nat.le_refl _)] at b
      obtain rfl : (T, li) = e := by simpa using a
      obtain rfl : (ns, x) = r := by simpa using b
      refine ⟨sqt_upd hT h.ls im, ?_⟩
      rw [upd_ne (show li ≠ l from fun z => n (by rw [z]; exact .head _))]
      exact hl
    · rw [List.getElem?_append_right (by omega), List.getElem?_eq_none (by simp; omega)] at a
      cases a
  · have e2 : l :: (es ++ [(T, li)]).map (·.2) = (l :: es.map (·.2)) ++ [li] := by rw [List.map_append]; rfl
    rw [e2]
    exact List.nodup_append.mpr ⟨h.nd, List.nodup_cons.mpr ⟨List.not_mem_nil, .nil⟩, fun a ha b hb e => n (by rw [List.mem_singleton.mp hb] at e; rw [← e]; exact ha)⟩
/-- a row is rewritten, with another list of names or the same one -/
theorem LfP.set (h : LfP K l es rows H) {i : Nat} {e0 : Addr × Addr} {T li : Addr} {ns : List Str} {x : Int} (he : es[i]? = some e0) (hT : SqT K H T [.ref li, .int x]) (hl : H li = some (.lst (ns.map V.str))) (n : li = e0.2 ∨ li ∉ lfp l es) :
    LfP K l (es.set i (T, li)) (rows.set i (ns, x)) (L2.upd H l (.lst ((es.map fun e => V.ref e.1).set i (.ref T)))) := by
  have im : ¬ Imm (fun _ => False) (.lst (es.map fun e => V.ref e.1)) := fun z => z
  have nn := List.nodup_cons.mp h.nd
  have hi := (List.getElem?_eq_some_iff.mp he).1
  have hli : li ≠ l := fun z => by
    rcases n with n | n
    · exact nn.1 (by rw [← z, n]; exact List.mem_map.mpr ⟨e0, List.mem_of_getElem? he, rfl⟩)
    · exact n (by rw [z]; exact .head _)
  refine ⟨by rw [upd_same, List.map_set], by rw [List.length_set, List.length_set, h.len], fun j e r a b => ?_, ?_⟩
  · rw [List.getElem?_set] at a b
    by_cases hij : i = j
    · rw [if_pos hij, if_pos hi] at a
      rw [if_pos hij, if_pos (by rw [← h.len]; exact hi)] at b
      obtain rfl := Option.some.inj a
      obtain rfl := Option.some.inj b
      exact ⟨sqt_upd hT h.ls im, by rw [upd_ne hli]; exact hl⟩
    · rw [if_neg hij] at a b
      refine ⟨sqt_upd (h.at_ j e r a b).1 h.ls im, ?_⟩
      rw [upd_ne (fun z => nn.1 (by rw [← z]; exact List.mem_map.mpr ⟨e, List.mem_of_getElem? a, rfl⟩))]
      exact (h.at_ j e r a b).2
  · rw [List.map_set]
    rcases n with n | n
    · rw [n, List.set_getElem?_self' (by rw [List.getElem?_map, he]; rfl)]
      exact h.nd
    · refine List.nodup_cons.mpr ⟨fun z => ?_, ?_⟩
      · rcases List.mem_or_eq_of_mem_set z with z | z
        · exact nn.1 z
        · exact hli z.symm
      · have hns : li ∉ es.map (·.2) := fun z => n (.tail _ z)
        exact nodup_set nn.2 hns
where
  nodup_set {L : List Addr} {i : Nat} {a : Addr} (h : L.Nodup) (n : a ∉ L) : (L.set i a).Nodup := by
    induction L generalizing i with
    | nil => exact h
    | cons x L ih =>
      have hx := List.nodup_cons.mp h
      cases i with
      | zero => exact List.nodup_cons.mpr ⟨fun z => n (.tail _ z), hx.2⟩
      | succ i =>
        refine List.nodup_cons.mpr ⟨fun z => ?_, ih hx.2 fun z => n (.tail _ z)⟩
        rcases List.mem_or_eq_of_mem_set z with z | z
        · exact hx.1 z
        · exact n (by rw [← z]; exact .head _)
end
def lfR {Γ : Gm} (l : Addr) (es : List (Addr × Addr)) (rows : List Rw) : RS (E1 Γ) := ⟨lfp l es, LfP Γ.K l es rows, LfP.loc, false⟩
section
variable {Γ : Gm} {l : Addr} {es es' : List (Addr × Addr)} {rows rows' : List Rw} {H0 H H' : Hp} {S0 : List Addr} {F : List (PF (E1 Γ))} {R R' : List (RS (E1 Γ))}
theorem SS.lf (s : SS (E1 Γ) H0 S0 H F R) (m : lfR l es rows ∈ R) : LfP Γ.K l es rows H := s.r _ m
/-- a new list is the law's -/
theorem SS.lfNew (s : SS (E1 Γ) H0 S0 H F R) (p : Pick R (lstR l []) R' (lfR l [] [])) : SS (E1 Γ) H0 S0 H F R' :=
  s.upd p rfl Fr.refl ⟨s.cell p.mem, rfl, fun i e r a => by simp at a, List.nodup_cons.mpr ⟨List.not_mem_nil, .nil⟩⟩ (List.nodup_cons.mpr ⟨List.not_mem_nil, .nil⟩) (fun a h => .inl h) fun a h => by
    rw [List.mem_singleton.mp h]
    exact ⟨_, s.cell p.mem, fun z => z⟩
/-- rewritten by what it had -/
theorem SS.lfU (s : SS (E1 Γ) H0 S0 H F R) (p : Pick R (lfR l es rows) R' (lfR l es' rows')) (f : Fr (lfp l es) H H') (h : LfP Γ.K l es' rows' H') (own : ∀ a ∈ lfp l es', a ∈ lfp l es) : SS (E1 Γ) H0 S0 H' F R' :=
  s.upd p rfl f h h.nd (fun a ha => .inl (own a ha)) h.cells
/-- .. and by a new list of names -/
theorem SS.lfM {li : Addr} {ns : List V} (s : SS (E1 Γ) H0 S0 H F (lstR li ns :: R)) (p : Pick R (lfR l es rows) R' (lfR l es' rows')) (f : Fr (lfp l es) H H') (h : LfP Γ.K l es' rows' H') (own : ∀ a ∈ lfp l es', a = li ∨ a ∈ lfp l es) : SS (E1 Γ) H0 S0 H' F R' :=
  s.mergeU p rfl rfl (fun a o n e => f a o (fun z => n (List.mem_append_right _ z)) e) h h.nd (fun a ha => (own a ha).imp (fun e => by rw [e]; exact .head _) id) h.cells
end
/-- the table's rows are those of the law's list -/
structure RelR (rows rows' : List Rw) : Prop where
  len : rows.length = rows'.length
  at_ : ∀ (i : Nat) (r r' : Rw), rows[i]? = some r → rows'[i]? = some r' → r.2 = r'.2 ∧ r'.1.Nodup ∧ (∀ z, z ∈ r.1 ↔ z ∈ r'.1) ∧ r.1.length < 40 ∧ r'.1.length < 40
theorem RelR.nil : RelR [] [] := ⟨rfl, fun i r r' h => by simp at h⟩
theorem RelR.app {rows rows' : List Rw} {r r' : Rw} (h : RelR rows rows') (e : r.2 = r'.2 ∧ r'.1.Nodup ∧ (∀ z, z ∈ r.1 ↔ z ∈ r'.1) ∧ r.1.length < 40 ∧ r'.1.length < 40) : RelR (rows ++ [r]) (rows' ++ [r']) := by
  refine ⟨by rw [List.length_append, List.length_append, h.len]; rfl, fun i u u' a b => ?_⟩
  rcases Nat.lt_trichotomy i rows.length with hi | hi | hi
  · rw [List.getElem?_append_left hi] at a
    rw [List.getElem?_append_left (by rw [← h.len]; exact hi)] at b
    exact h.at_ i u u' a b
  · rw [hi, List.getElem?_append_right (Nat.le_refl _)] at a
    rw [hi, h.len, List.getElem?_append_right (Nat.le_refl _)] at b
    obtain rfl : r = u := by simpa using a
    obtain rfl : r' = u' := by simpa using b
    exact e
  · rw [List.getElem?_append_right (by omega), List.getElem?_eq_none (by simp; omega)] at a
    cases a
theorem RelR.set {rows rows' : List Rw} {r r' : Rw} {i : Nat} (h : RelR rows rows') (e : r.2 = r'.2 ∧ r'.1.Nodup ∧ (∀ z, z ∈ r.1 ↔ z ∈ r'.1) ∧ r.1.length < 40 ∧ r'.1.length < 40) : RelR (rows.set i r) (rows'.set i r') := by
  refine ⟨by rw [List.length_set, List.length_set, h.len], fun j u u' a b => ?_⟩
  rw [List.getElem?_set] at a b
  by_cases hij : i = j
  · rw [if_pos hij] at a b
    split at a
    · split at b
      · obtain rfl := Option.some.inj a
        obtain rfl := Option.some.inj b
        exact e
      · cases b
    · cases a
  · rw [if_neg hij] at a b
    exact h.at_ j u u' a b
/-! ### rows as data -/
def rowD (r : Rw) : PyData := .tuple [.tuple (r.1.map PyData.str), .int r.2]
theorem eqvAll_rows : ∀ xs : List Rw, PyData.eqvAll (xs.map rowD) (xs.map rowD) = true
  | [] => by simp [PyData.eqvAll]
  | x :: xs => by
    have ih := eqvAll_rows xs
    have h := eqvAll_strs x.1 x.1
    simp [PyData.eqvAll, rowD, PyData.eqv, ih, h]
theorem shaped_rows {xs : List Rw} (h : ∀ r ∈ xs, ∀ k ∈ r.1, PyData.strOk k = true) : SeqAt.shaped (.tuple (xs.map rowD)) = true := by
  have a1 : ∀ ks : List Str, (∀ k ∈ ks, PyData.strOk k = true) → PyData.canLayAll0 (ks.map PyData.str) = true := by
    intro ks
    induction ks with
    | nil => intro _; rfl
    | cons k r ih =>
      intro h
      simp [PyData.canLayAll0, PyData.canLay0]
      exact ⟨h k (.head _), ih fun x hx => h x (.tail _ hx)⟩
  have b1 : ∀ ks : List Str, PyData.depthAll (ks.map PyData.str) = 0 := by
    intro ks
    induction ks with
    | nil => rfl
    | cons k r ih => simp [PyData.depthAll, PyData.depth, ih]
  have a : PyData.canLayAll0 (xs.map rowD) = true := by
    induction xs with
    | nil => rfl
    | cons x xs ih =>
      have i2 := ih fun r hr => h r (.tail _ hr)
      simp [PyData.canLayAll0, rowD, PyData.canLay0, a1 x.1 (h x (.head _))]
      exact i2
  have b : PyData.depthAll (xs.map rowD) ≤ 2 := by
    clear h a
    induction xs with
    | nil => simp [PyData.depthAll]
    | cons x xs ih =>
      simp only [List.map_cons, PyData.depthAll, rowD, PyData.depth, b1]
      omega
  unfold SeqAt.shaped
  simp [PyData.canLay0, PyData.depth, a]
  omega
theorem wo_neST {Γ : Gm} {H : Hp} {Q : VK} {p q : Addr} {xs ys : List Str} (hp : SqT Γ.K H p (xs.map V.str)) (hq : SqT Γ.K H q (ys.map V.str)) (ox : ∀ k ∈ xs, PyData.strOk k = true) (oy : ∀ k ∈ ys, PyData.strOk k = true) (k : Q (.bl (!decide (xs = ys))) H) : WO Γ (compareOp .NotEq) (.ref p) (.ref q) H Q :=
  ⟨rNeD Γ.K, fun X g => (by have := op_neD (X := X) (Nat.lt_of_le_of_lt (Nat.le_refl _) g.hu64); rw [g.K] at this; exact this), _, _, .tup hp (dp_strs xs), .tup hq (dp_strs ys), shaped_strT ox, shaped_strT oy, by
    have e : PyData.eqv (.tuple (xs.map PyData.str)) (.tuple (ys.map PyData.str)) = decide (xs = ys) := by rw [tk, eqvAll_strs]
    rw [e]; exact k⟩
/-- two tuples of the same rows are equal -/
theorem wo_eqRows {Γ : Gm} {H : Hp} {Q : VK} {p q : Addr} {ps qs : List V} {xs : List Rw} (hp : SqT Γ.K H p ps) (hq : SqT Γ.K H q qs) (dp : DpAll Γ.K H ps (xs.map rowD)) (dq : DpAll Γ.K H qs (xs.map rowD)) (h : ∀ r ∈ xs, ∀ k ∈ r.1, PyData.strOk k = true) (k : Q (.bl true) H) : WO Γ (compareOp .Eq) (.ref p) (.ref q) H Q :=
  ⟨rEqD Γ.K, fun X g => (by have := op_eqD (X := X) (Nat.lt_of_le_of_lt (Nat.le_refl _) g.hu64); rw [g.K] at this; exact this), _, _, .tup hp dp, .tup hq dq, shaped_rows h, shaped_rows h, by
    have e : PyData.eqv (.tuple (xs.map rowD)) (.tuple (xs.map rowD)) = true := by rw [tk, eqvAll_rows]
    rw [e]; exact k⟩
theorem dpAll_of {K : PySem.W.Frag} {H : Hp} : ∀ {ts : List Addr} {rows : List Rw}, ts.length = rows.length → (∀ (i : Nat) t r, ts[i]? = some t → rows[i]? = some r → ∃ m, SqT K H t [.ref m, .int r.2] ∧ SqT K H m (r.1.map V.str)) → DpAll K H (ts.map V.ref) (rows.map rowD)
  | [], [], _, _ => .nil
  | t :: ts, r :: rows, h, k => by
    obtain ⟨m, h1, h2⟩ := k 0 t r rfl rfl
    exact .cons (.tup h1 (.cons (.tup h2 (dp_strs r.1)) (.cons (.int _) .nil))) (dpAll_of (by simpa using h) fun i t r a b => k (i + 1) t r a b)
  | [], _ :: _, h, _ => by simp at h
  | _ :: _, [], h, _ => by simp at h
end G
/-! several things changed at once; a law's list of rows and its table -/
namespace G
open PySem PySem.Spec PyProof.Rows L2
section
variable {E : Hv} {H0 H H' : Hp} {S0 : List Addr} {F : List (PF E)} {R R' Rs Rs' : List (RS E)}
theorem fps_perm (p : R.Perm R') : (fps R).Perm (fps R') := by
  induction p with
  | nil => exact .refl _
  | cons x _ ih => exact ih.append_left _
  | swap x y l => exact List.perm_append_comm_assoc _ _ _
  | trans _ _ a b => exact a.trans b
theorem ows_perm (p : R.Perm R') : (ows R).Perm (ows R') := by
  induction p with
  | nil => exact .refl _
  | cons x _ ih => exact ih.append_left _
  | swap x y l => exact List.perm_append_comm_assoc _ _ _
  | trans _ _ a b => exact a.trans b
/-- in another order -/
theorem SS.perm (s : SS E H0 S0 H F R) (p : R.Perm R') : SS E H0 S0 H F R' :=
  ⟨s.f, fun x hx => s.r x (p.mem_iff.mpr hx), (fps_perm p).nodup_iff.mp s.nd, fun a ha => s.tr a ((fps_perm p).mem_iff.mpr ha), s.fr, fun a ha => s.ow a ((ows_perm p).mem_iff.mpr ha)⟩
/-- several as one -/
def bunR (Rs : List (RS E)) : RS E := ⟨fps Rs, fun H => ∀ x ∈ Rs, x.P H, fun H H' k h x hx => x.loc H H' (fun a o e i => k a o e (i.elim (fun z => .inl (mem_fps hx a z)) .inr)) (h x hx), false⟩
theorem ows_own (o : ∀ x ∈ Rs, x.ro = false) : ows Rs = fps Rs := by
  induction Rs with
  | nil => rfl
  | cons x l ih =>
    show (if x.ro then [] else x.fp) ++ ows l = x.fp ++ fps l
    rw [o x (.head _), ih fun y hy => o y (.tail _ hy)]
    rfl
theorem SS.bun (s : SS E H0 S0 H F (Rs ++ R)) (o : ∀ x ∈ Rs, x.ro = false) : SS E H0 S0 H F (bunR Rs :: R) := by
  have e1 : fps (bunR Rs :: R) = fps (Rs ++ R) := by rw [fps_app]; rfl
  have e2 : ows (bunR Rs :: R) = ows (Rs ++ R) := by rw [ows_app, ows_own o]; rfl
  refine ⟨s.f, fun x hx => ?_, by rw [e1]; exact s.nd, by rw [e1]; exact s.tr, s.fr, by rw [e2]; exact s.ow⟩
  rcases List.mem_cons.mp hx with rfl | hx
  · exact fun y hy => s.r y (List.mem_append_left _ hy)
  · exact s.r x (List.mem_append_right _ hx)
theorem SS.unb (s : SS E H0 S0 H F (bunR Rs :: R)) (o : ∀ x ∈ Rs, x.ro = false) : SS E H0 S0 H F (Rs ++ R) := by
  have e1 : fps (bunR Rs :: R) = fps (Rs ++ R) := by rw [fps_app]; rfl
  have e2 : ows (bunR Rs :: R) = ows (Rs ++ R) := by rw [ows_app, ows_own o]; rfl
  refine ⟨s.f, fun x hx => ?_, by rw [← e1]; exact s.nd, by rw [← e1]; exact s.tr, s.fr, by rw [← e2]; exact s.ow⟩
  rcases List.mem_append.mp hx with hx | hx
  · exact s.r (bunR Rs) (.head _) x hx
  · exact s.r x (.tail _ hx)
/-- several are changed -/
theorem SS.updL (s : SS E H0 S0 H F (Rs ++ R)) (o : ∀ x ∈ Rs, x.ro = false) (o' : ∀ x ∈ Rs', x.ro = false) (k : Fr (fps Rs) H H') (h : ∀ x ∈ Rs', x.P H') (nd : (fps Rs').Nodup) (own : ∀ a ∈ fps Rs', a ∈ fps Rs ∨ H a = none) (tr : ∀ a ∈ fps Rs', ∃ o, H' a = some o ∧ ¬ Imm E.MC o) : SS E H0 S0 H' F (Rs' ++ R) :=
  ((s.bun o).upd .here rfl k (r' := bunR Rs') h nd own tr).unb o'
end
/-! ### a drawn deed -/
def dfp (b : Addr) (A : TAd) (l : Addr) (es : List (Addr × Addr)) : List Addr := [b] ++ (A.fp ++ (lfp l es ++ []))
structure DeedP (K : PySem.W.Frag) (C b : Addr) (A : TAd) (l : Addr) (n : Nat) (B : Tb) (es : List (Addr × Addr)) (rows : List Rw) (names : List Str) (H : Hp) : Prop where
  bx : Box b n H
  tb : TbP K C A B H
  lf : LfP K l es rows H
  rel : RelR B.rows rows
  nd : (dfp b A l es).Nodup
  sub : ∀ r ∈ rows, ∀ z ∈ r.1, z ∈ names
section
variable {Γ : Gm} {C b l : Addr} {A : TAd} {n : Nat} {B : Tb} {es es' : List (Addr × Addr)} {rows rows' : List Rw} {names : List Str} {H0 H H' : Hp} {S0 : List Addr} {F : List (PF (E1 Γ))} {R : List (RS (E1 Γ))}
abbrev dRs (Γ : Gm) (C b : Addr) (A : TAd) (l : Addr) (n : Nat) (B : Tb) (es : List (Addr × Addr)) (rows : List Rw) : List (RS (E1 Γ)) := [boxR b n, tbR C A B, lfR l es rows]
theorem DeedP.cells (h : DeedP Γ.K C b A l n B es rows names H) {MC : Addr → Prop} : ∀ a ∈ dfp b A l es, ∃ o, H a = some o ∧ ¬ Imm MC o := fun a ha => by
  rcases List.mem_append.mp ha with ha | ha
  · rw [List.mem_singleton.mp ha]
    obtain ⟨xs, e⟩ := h.bx.cell
    exact ⟨_, e, fun z => z⟩
  rcases List.mem_append.mp ha with ha | ha
  · exact h.tb.cells a ha
  rw [List.append_nil] at ha
  exact h.lf.cells a ha
theorem DeedP.all (h : DeedP Γ.K C b A l n B es rows names H) : ∀ x ∈ dRs Γ C b A l n B es rows, x.P H := fun x hx => by
  rcases List.mem_cons.mp hx with rfl | hx
  · exact h.bx
  rcases List.mem_cons.mp hx with rfl | hx
  · exact h.tb
  rcases List.mem_cons.mp hx with rfl | hx
  · exact h.lf
  cases hx
theorem dRs_own : ∀ x ∈ dRs Γ C b A l n B es rows, x.ro = false := fun x hx => by
  rcases List.mem_cons.mp hx with rfl | hx
  · rfl
  rcases List.mem_cons.mp hx with rfl | hx
  · rfl
  rcases List.mem_cons.mp hx with rfl | hx
  · rfl
  cases hx
theorem DeedP.ss (h : DeedP Γ.K C b A l n B es rows names H) : SS (E1 Γ) H (dfp b A l es) H [] (dRs Γ C b A l n B es rows) := by
  have s := SS.start (E := E1 Γ) (F := []) (R := dRs Γ C b A l n B es rows) (H := H) (fun _ h => nomatch h) h.all h.nd h.cells
  rw [ows_own dRs_own] at s
  exact s
theorem DeedP.of (s : SS (E1 Γ) H0 S0 H F (dRs Γ C b A l n B es rows ++ R)) (rel : RelR B.rows rows) (sub : ∀ r ∈ rows, ∀ z ∈ r.1, z ∈ names) : DeedP Γ.K C b A l n B es rows names H :=
  ⟨s.r _ (.head _), s.r _ (.tail _ (.head _)), s.r _ (.tail _ (.tail _ (.head _))), rel, by
    have := s.nd
    rw [fps_app] at this
    exact (List.nodup_append.mp this).1, sub⟩
/-- what a deed leaves -/
def DQ (K : PySem.W.Frag) (C b : Addr) (A : TAd) (l : Addr) (n : Nat) (B : Tb) (es : List (Addr × Addr)) (rows : List Rw) (names : List Str) (H : Hp) (Q : VK) : Prop :=
  ∀ (B' : Tb) (es' : List (Addr × Addr)) (rows' : List Rw) (H' : Hp), DeedP K C b A l n B' es' rows' names H' → Fr (dfp b A l es) H H' → (∀ a ∈ dfp b A l es', a ∈ dfp b A l es ∨ H a = none) → rows'.length ≤ rows.length + 1 → B'.ks = B.ks → B'.nx = B.nx → Q (.bl true) H'
theorem DQ.fin {B' : Tb} {m : Nat} {Q : VK} (q : DQ Γ.K C b A l n B es rows names H0 Q) (s : SS (E1 Γ) H0 (dfp b A l es) H F (dRs Γ C b A l (n + m) B' es' rows' ++ R)) (rel : RelR B'.rows rows') (sub : ∀ r ∈ rows', ∀ z ∈ r.1, z ∈ names) (hl : rows'.length ≤ rows.length + 1) (k : B'.ks = B.ks) (x : B'.nx = B.nx) : Q (.bl true) H := by
  have d := DeedP.of s rel sub
  refine q B' es' rows' H ⟨d.bx.less (by omega), d.tb, d.lf, d.rel, d.nd, d.sub⟩ s.fr (fun a ha => s.ow a ?_) hl k x
  rw [ows_app, ows_own dRs_own]
  exact List.mem_append_left _ ha
theorem DQ.upd {m : Nat} {B' : Tb} {rows' : List Rw} (s : SS (E1 Γ) H0 S0 H F (dRs Γ C b A l m B es rows ++ R)) (d : DeedP Γ.K C b A l n B' es' rows' names H') (f : Fr (dfp b A l es) H H') (own : ∀ a ∈ dfp b A l es', a ∈ dfp b A l es ∨ H a = none) : SS (E1 Γ) H0 S0 H' F (dRs Γ C b A l n B' es' rows' ++ R) :=
  s.updL dRs_own dRs_own f d.all d.nd own d.cells
end
/-! ### != [] -/
theorem wo_neE {Γ : Gm} {H : Hp} {Q : VK} {p q : Addr} {ks : List Str} (hp : SqL Γ.K H p (ks.map V.str)) (hq : SqL Γ.K H q []) (ok : ∀ k ∈ ks, PyData.strOk k = true) (k : Q (.bl (!ks.isEmpty)) H) : WO Γ (compareOp .NotEq) (.ref p) (.ref q) H Q :=
  ⟨rNeD Γ.K, fun X g => (by have := op_neD (X := X) (Nat.lt_of_le_of_lt (Nat.le_refl _) g.hu64); rw [g.K] at this; exact this), _, _, .lst hp (dp_strs ks), .lst hq .nil, shaped_strs ok, by decide, by
    have e : PyData.eqv (.list (ks.map PyData.str)) (.list []) = ks.isEmpty := by cases ks <;> simp [PyData.eqv, PyData.eqvAll]
    rw [e]; exact k⟩
def rowL (r : Rw) : PyData := .tuple [.list (r.1.map PyData.str), .int r.2]
theorem shaped_rowsL {xs : List Rw} (h : ∀ r ∈ xs, ∀ k ∈ r.1, PyData.strOk k = true) : SeqAt.shaped (.list (xs.map rowL)) = true := by
  have a1 : ∀ ks : List Str, (∀ k ∈ ks, PyData.strOk k = true) → PyData.canLayAll0 (ks.map PyData.str) = true := by
    intro ks
    induction ks with
    | nil => intro _; rfl
    | cons k r ih =>
      intro h
      simp [PyData.canLayAll0, PyData.canLay0]
      exact ⟨h k (.head _), ih fun x hx => h x (.tail _ hx)⟩
  have b1 : ∀ ks : List Str, PyData.depthAll (ks.map PyData.str) = 0 := by
    intro ks
    induction ks with
    | nil => rfl
    | cons k r ih => simp [PyData.depthAll, PyData.depth, ih]
  have a : PyData.canLayAll0 (xs.map rowL) = true := by
    induction xs with
    | nil => rfl
    | cons x xs ih =>
      have i2 := ih fun r hr => h r (.tail _ hr)
      simp [PyData.canLayAll0, rowL, PyData.canLay0, a1 x.1 (h x (.head _))]
      exact i2
  have b : PyData.depthAll (xs.map rowL) ≤ 2 := by
    clear h a
    induction xs with
    | nil => simp [PyData.depthAll]
    | cons x xs ih =>
      simp only [List.map_cons, PyData.depthAll, rowL, PyData.depth, b1]
      omega
  unfold SeqAt.shaped
  simp [PyData.canLay0, PyData.depth, a]
  omega
theorem LfP.dp {K : PySem.W.Frag} {H : Hp} : ∀ {es : List (Addr × Addr)} {rows : List Rw}, es.length = rows.length → (∀ (i : Nat) (e : Addr × Addr) (r : Rw), es[i]? = some e → rows[i]? = some r → SqT K H e.1 [.ref e.2, .int r.2] ∧ H e.2 = some (.lst (r.1.map V.str))) → DpAll K H (es.map fun e => V.ref e.1) (rows.map rowL)
  | [], [], _, _ => .nil
  | t :: ts, r :: rows, h, k => by
    obtain ⟨h1, h2⟩ := k 0 t r rfl rfl
    exact .cons (.tup h1 (.cons (.lst (SqL.of h2) (dp_strs r.1)) (.cons (.int _) .nil))) (LfP.dp (by simpa using h) fun i t r a b => k (i + 1) t r a b)
  | [], _ :: _, h, _ => by simp at h
  | _ :: _, [], h, _ => by simp at h
theorem wo_neL {Γ : Gm} {H : Hp} {Q : VK} {l q : Addr} {es : List (Addr × Addr)} {rows : List Rw} (hp : LfP Γ.K l es rows H) (hq : SqL Γ.K H q []) (ok : ∀ r ∈ rows, ∀ k ∈ r.1, PyData.strOk k = true) (k : Q (.bl (!rows.isEmpty)) H) : WO Γ (compareOp .NotEq) (.ref l) (.ref q) H Q :=
  ⟨rNeD Γ.K, fun X g => (by have := op_neD (X := X) (Nat.lt_of_le_of_lt (Nat.le_refl _) g.hu64); rw [g.K] at this; exact this), _, _, .lst (SqL.of hp.ls) (LfP.dp hp.len hp.at_), .lst hq .nil, shaped_rowsL ok, by decide, by
    have e : PyData.eqv (.list (rows.map rowL)) (.list []) = rows.isEmpty := by cases rows <;> simp [PyData.eqv, PyData.eqvAll]
    rw [e]; exact k⟩
/-! ### picked names -/
theorem picked_s {ns : List Str} {xs r : List V} (h : (xs ++ r).Perm (ns.map V.str)) (nd : ns.Nodup) : ∃ ms : List Str, xs = ms.map V.str ∧ ms.Nodup ∧ ∀ z ∈ ms, z ∈ ns := by
  let of : V → Str := fun v => match v with
    | .str y => y
    | _ => ""
  have h2 := h.map of
  rw [List.map_map, show (of ∘ fun c => V.str c) = id from rfl, List.map_id, List.map_append] at h2
  refine ⟨xs.map of, ?_, ?_, fun c hc => h2.mem_iff.mp (List.mem_append_left _ hc)⟩
  · rw [List.map_map]
    refine (List.map_id xs).symm.trans (List.map_congr_left fun v hv => ?_)
    obtain ⟨z, _, rfl⟩ := List.mem_map.mp (h.mem_iff.mp (List.mem_append_left _ hv))
    rfl
  · exact (List.nodup_append.mp (h2.nodup_iff.mpr nd)).1
end G
/-! links of a kind, plainly; and in a table -/
namespace G
open PySem PySem.Spec PyProof.Rows L2
def nxt (m : Mp) (r : Nat) : Option Nat := (m.find? fun e => decide (e.1 = r)).map (·.2)
section
variable {m b : Mp} {r o n : Nat}
theorem nxt_cons {e : Nat × Nat} {l : Mp} : nxt (e :: l) r = if e.1 = r then some e.2 else nxt l r := by
  unfold nxt
  rw [List.find?_cons]
  by_cases h : e.1 = r
  · simp [h]
  · simp [h]
theorem nxt_mem (h : nxt m r = some o) : (r, o) ∈ m := by
  induction m with
  | nil => cases h
  | cons e l ih =>
    rw [nxt_cons] at h
    split at h
    · rename_i e1
      cases h
      rw [← e1]
      exact .head _
    · exact .tail _ (ih h)
theorem nxt_none : nxt m r = none ↔ ∀ o, (r, o) ∉ m := by
  induction m with
  | nil => exact ⟨(fun _ _ h => nomatch h), fun _ => rfl⟩
  | cons e l ih =>
    rw [nxt_cons]
    by_cases h : e.1 = r
    · rw [if_pos h]
      refine ⟨(fun h2 => by cases h2), fun h2 => absurd ?_ (h2 e.2)⟩
      rw [← h]
      exact List.Mem.head _
    · rw [if_neg h, ih]
      exact ⟨fun h2 o ho => by
        cases ho with
        | head => exact h rfl
        | tail _ z => exact h2 o z, fun h2 o ho => h2 o (.tail _ ho)⟩
theorem nxt_of (km : (m.map (·.1)).Nodup) (h : (r, o) ∈ m) : nxt m r = some o := by
  induction m with
  | nil => cases h
  | cons e l ih =>
    have n := List.nodup_cons.mp km
    rw [nxt_cons]
    cases h with
    | head => rw [if_pos rfl]
    | tail _ z =>
      rw [if_neg (fun e1 => n.1 (List.mem_map.mpr ⟨_, z, e1.symm⟩))]
      exact ih n.2 z
theorem valV_mp (m : Mp) (r : Nat) : valV (mpK m) (Sum.inl (r : Int)) = (nxt m r).map fun o : Nat => V.int o := by
  induction m with
  | nil => rfl
  | cons e l ih =>
    show valV ((Sum.inl (e.1 : Int), V.int e.2) :: mpK l) (Sum.inl (r : Int)) = _
    rw [nxt_cons]
    by_cases h : e.1 = r
    · rw [if_pos h, valV_pos (by rw [← h])]
      rfl
    · rw [if_neg h, valV_neg (fun e1 => h (by injection e1 with e1; omega)), ih]
theorem putK_mp (h : nxt m r = none) : putK (mpK m) (Sum.inl (r : Int)) (.int o) = mpK (m ++ [(r, o)]) := by
  rw [putK_new _ (by rw [valV_mp, h]; rfl)]
  unfold mpK
  rw [List.map_append]
  rfl
theorem dropK_mp : dropK (mpK m) (Sum.inl (r : Int)) = mpK (m.filter fun e => decide (e.1 ≠ r)) := by
  induction m with
  | nil => rfl
  | cons e l ih =>
    have ih2 : (mpK l).filter (fun kv => decide (kv.1 ≠ (Sum.inl (r : Int) : Key))) = mpK (l.filter fun e => decide (e.1 ≠ r)) := ih
    show ((Sum.inl (e.1 : Int), V.int e.2) :: mpK l).filter (fun kv => decide (kv.1 ≠ (Sum.inl (r : Int) : Key))) = _
    by_cases h : e.1 = r
    · rw [List.filter_cons_of_neg (by simp [h]), List.filter_cons_of_neg (by simp [h])]
      exact ih2
    · have ne : (Sum.inl (e.1 : Int) : Key) ≠ Sum.inl (r : Int) := fun e1 => h (by injection e1 with e1; omega)
      rw [List.filter_cons_of_pos (by simpa using ne), List.filter_cons_of_pos (by simpa using h), ih2]
      rfl
/-- from a one comes to c -/
inductive Rch (m : Mp) : Nat → Nat → Prop where
  | refl (a : Nat) : Rch m a a
  | step {a b c : Nat} : (a, b) ∈ m → Rch m b c → Rch m a c
theorem Rch.snoc {a b c : Nat} (h : Rch m a b) (k : (b, c) ∈ m) : Rch m a c := by
  induction h with
  | refl a => exact .step k (.refl _)
  | step h1 _ ih => exact .step h1 (ih k)
theorem Rch.det {a b c : Nat} (km : (m.map (·.1)).Nodup) (h : Rch m a b) (k : Rch m a c) (hb : nxt m b = none) (hc : nxt m c = none) : b = c := by
  induction h with
  | refl a =>
    cases k with
    | refl => rfl
    | step h1 _ => exact absurd h1 (nxt_none.mp hb _)
  | step h1 _ ih =>
    cases k with
    | refl => exact absurd h1 (nxt_none.mp hc _)
    | step k1 k2 =>
      have e : some _ = some _ := (nxt_of km h1).symm.trans (nxt_of km k1)
      cases e
      exact ih k2 hb
/-- the links of one kind among n rows -/
structure LkI (n : Nat) (m b : Mp) : Prop where
  km : (m.map (·.1)).Nodup
  kb : (b.map (·.1)).Nodup
  inv : ∀ r o, (r, o) ∈ m ↔ (o, r) ∈ b
  lt : ∀ r o, (r, o) ∈ m → r < n ∧ o < n
  ac : ∃ rk : Nat → Nat, ∀ r o, (r, o) ∈ m → rk r < rk o
theorem LkI.nil : LkI n [] [] := ⟨.nil, .nil, (fun r o => ⟨(fun h => nomatch h), (fun h => nomatch h)⟩), (fun r o h => nomatch h), fun _ => 0, (fun r o h => nomatch h)⟩
theorem LkI.mono {k : Nat} (h : LkI n m b) (l : n ≤ k) : LkI k m b := ⟨h.km, h.kb, h.inv, fun r o e => ⟨Nat.lt_of_lt_of_le (h.lt r o e).1 l, Nat.lt_of_lt_of_le (h.lt r o e).2 l⟩, h.ac⟩
theorem snoc_nd {l : Mp} {r o : Nat} (h : (l.map (·.1)).Nodup) (k : nxt l r = none) : ((l ++ [(r, o)]).map (·.1)).Nodup := by
  rw [List.map_append]
  refine List.nodup_append.mpr ⟨h, List.nodup_cons.mpr ⟨List.not_mem_nil, .nil⟩, fun u hu v hv e => ?_⟩
  obtain ⟨p, hp, rfl⟩ := List.mem_map.mp hu
  have e1 : p.1 = r := by rw [e]; exact List.mem_singleton.mp hv
  exact nxt_none.mp k p.2 (by rw [← e1]; exact hp)
theorem LkI.link (h : LkI n m b) (hr : r < n) (ho : o < n) (k1 : nxt m r = none) (k2 : nxt b o = none) (nr : ¬ Rch m o r) : LkI n (m ++ [(r, o)]) (b ++ [(o, r)]) := by
  classical
  refine ⟨snoc_nd h.km k1, snoc_nd h.kb k2, fun x y => ?_, fun x y e => ?_, ?_⟩
  · rw [List.mem_append, List.mem_append, h.inv, List.mem_singleton, List.mem_singleton]
    exact ⟨fun e => e.imp id fun e => by cases e; rfl, fun e => e.imp id fun e => by cases e; rfl⟩
  · rcases List.mem_append.mp e with e | e
    · exact h.lt x y e
    · cases List.mem_singleton.mp e; exact ⟨hr, ho⟩
  · obtain ⟨rk, hrk⟩ := h.ac
    refine ⟨fun x => if Rch m o x then rk x + rk r + 1 else rk x, fun x y e => ?_⟩
    show (if Rch m o x then rk x + rk r + 1 else rk x) < (if Rch m o y then rk y + rk r + 1 else rk y)
    rcases List.mem_append.mp e with e | e
    · have := hrk x y e
      by_cases hx : Rch m o x
      · rw [if_pos hx, if_pos (hx.snoc e)]; omega
      · rw [if_neg hx]
        by_cases hy : Rch m o y
        · rw [if_pos hy]; omega
        · rw [if_neg hy]; exact this
    · cases List.mem_singleton.mp e
      rw [if_neg nr, if_pos (.refl _)]
      omega
theorem LkI.cut (h : LkI n m b) (e : (r, o) ∈ m) : LkI n (m.filter fun e => decide (e.1 ≠ r)) (b.filter fun e => decide (e.1 ≠ o)) := by
  refine ⟨(h.km.sublist (List.Sublist.map _ List.filter_sublist)), (h.kb.sublist (List.Sublist.map _ List.filter_sublist)), fun x y => ?_, fun x y k => h.lt x y (List.mem_filter.mp k).1, ?_⟩
  · rw [List.mem_filter, List.mem_filter, h.inv]
    refine and_congr_right fun k => ?_
    simp only [decide_eq_true_eq, ne_eq]
    refine not_congr ⟨fun e1 => ?_, fun e1 => ?_⟩
    · have e1 : x = r := e1
      subst e1
      have e2 : some y = some o := (nxt_of h.km ((h.inv x y).mpr k)).symm.trans (nxt_of h.km e)
      cases e2; rfl
    · have e1 : y = o := e1
      subst e1
      have e2 : some x = some r := (nxt_of h.kb k).symm.trans (nxt_of h.kb ((h.inv r y).mp e))
      cases e2; rfl
  · obtain ⟨rk, hrk⟩ := h.ac
    exact ⟨rk, fun x y k => hrk x y (List.mem_filter.mp k).1⟩
/-- how far it may go -/
def top (rk : Nat → Nat) : Mp → Nat
  | [] => 0
  | e :: l => rk e.2 + top rk l
theorem top_le {rk : Nat → Nat} {m : Mp} {r o : Nat} (h : (r, o) ∈ m) : rk o ≤ top rk m := by
  induction m with
  | nil => cases h
  | cons e l ih =>
    show rk o ≤ rk e.2 + top rk l
    cases h with
    | head => exact Nat.le_add_right _ _
    | tail _ z => exact Nat.le_trans (ih z) (Nat.le_add_left _ _)
end
/-! ### in a table -/
section
variable {K : PySem.W.Frag} {C : Addr} {A : TAd} {T : Tb} {H : Hp} {i : Nat} {q : Addr} {m' : Mp}
theorem fp_q (h : A.fp.Nodup) (e : A.qs[i]? = some q) : q ≠ A.pn ∧ q ≠ A.pb ∧ q ≠ A.pf ∧ q ≠ A.pm ∧ q ∉ A.rs ∧ A.qs.Nodup := by
  have hq := List.mem_of_getElem? e
  simp only [TAd.fp, List.nodup_cons, List.mem_cons, List.mem_append, not_or] at h
  obtain ⟨⟨h1, h2, h3, h4, h5⟩, ⟨h6, h7, h8, h9⟩, ⟨h10, h11, h12⟩, ⟨h13, h14⟩, h15⟩ := h
  have n := List.nodup_append.mp h15
  exact ⟨fun z => h4 (z ▸ hq), fun z => h8 (z ▸ hq), fun z => h11 (z ▸ hq), fun z => h13 (z ▸ hq), fun z => n.2.2 q hq q z rfl, n.1⟩
theorem fp_r (h : A.fp.Nodup) (e : A.rs[i]? = some q) : q ≠ A.pn ∧ q ≠ A.pb ∧ q ≠ A.pf ∧ q ≠ A.pm ∧ q ∉ A.qs ∧ A.rs.Nodup := by
  have hq := List.mem_of_getElem? e
  simp only [TAd.fp, List.nodup_cons, List.mem_cons, List.mem_append, not_or] at h
  obtain ⟨⟨h1, h2, h3, h4, h5⟩, ⟨h6, h7, h8, h9⟩, ⟨h10, h11, h12⟩, ⟨h13, h14⟩, h15⟩ := h
  have n := List.nodup_append.mp h15
  exact ⟨fun z => h5 (z ▸ hq), fun z => h9 (z ▸ hq), fun z => h12 (z ▸ hq), fun z => h14 (z ▸ hq), fun z => n.2.2 q z q hq rfl, n.2.1⟩
theorem Dks.set {qs : List Addr} {ms : List Mp} (h : Dks H qs ms) (nd : qs.Nodup) (e : qs[i]? = some q) : Dks (L2.upd H q (.dK (mpK m'))) qs (ms.set i m') := by
  have hi := (List.getElem?_eq_some_iff.mp e).1
  refine ⟨by rw [List.length_set]; exact h.len, fun j p m a b => ?_⟩
  rw [List.getElem?_set] at b
  by_cases hij : i = j
  · subst hij
    rw [if_pos rfl, if_pos (by rw [← h.len]; exact hi)] at b
    cases b
    rw [e] at a
    cases a
    exact upd_same
  · rw [if_neg hij] at b
    have hj := (List.getElem?_eq_some_iff.mp a).1
    have ne : p ≠ q := fun z => hij ((List.getElem?_inj hi nd).mp (by rw [e, a, z]))
    rw [upd_ne ne]
    exact h.at_ j p m a b
theorem ins_ne {u : HO} (h : TbP K C A T H) (e : H q = some u) (n : ¬ Imm (fun _ => False) u) : A.a ≠ q := fun z => by
  have := h.ins
  rw [z, e] at this
  cases this
  exact n (fun z => z)
theorem TbP.setX (h : TbP K C A T H) (e : A.qs[i]? = some q) : TbP K C A { T with nx := T.nx.set i m' } (L2.upd H q (.dK (mpK m'))) := by
  obtain ⟨n1, n2, n3, n4, n5, n6⟩ := fp_q h.nd e
  have hi := (List.getElem?_eq_some_iff.mp e).1
  have hl := h.qd.len
  have h0 := h.qd.at_ i q T.nx[i] e (List.getElem?_eq_getElem (by omega))
  have im : ¬ Imm (fun _ => False) (.dK (mpK T.nx[i])) := fun z => z
  obtain ⟨ts, h1, h2⟩ := h.fa
  exact ⟨by rw [upd_ne (ins_ne h h0 im)]; exact h.ins, sqt_upd h.so h0 im, by rw [upd_ne (Ne.symm n1)]; exact h.nx, by rw [upd_ne (Ne.symm n2)]; exact h.bf, ⟨ts, by rw [upd_ne (Ne.symm n3)]; exact h1, ⟨h2.len, fun j t r a b => sqt_upd (h2.at_ j t r a b) h0 im⟩⟩, by rw [upd_ne (Ne.symm n4)]; exact h.nu, h.qd.set n6 e, h.rd.upd n5, by rw [List.length_set]; exact h.kn, h.kb, h.nd, h.ka, h.ra⟩
theorem TbP.setB (h : TbP K C A T H) (e : A.rs[i]? = some q) : TbP K C A { T with bf := T.bf.set i m' } (L2.upd H q (.dK (mpK m'))) := by
  obtain ⟨n1, n2, n3, n4, n5, n6⟩ := fp_r h.nd e
  have hi := (List.getElem?_eq_some_iff.mp e).1
  have hl := h.rd.len
  have h0 := h.rd.at_ i q T.bf[i] e (List.getElem?_eq_getElem (by omega))
  have im : ¬ Imm (fun _ => False) (.dK (mpK T.bf[i])) := fun z => z
  obtain ⟨ts, h1, h2⟩ := h.fa
  exact ⟨by rw [upd_ne (ins_ne h h0 im)]; exact h.ins, sqt_upd h.so h0 im, by rw [upd_ne (Ne.symm n1)]; exact h.nx, by rw [upd_ne (Ne.symm n2)]; exact h.bf, ⟨ts, by rw [upd_ne (Ne.symm n3)]; exact h1, ⟨h2.len, fun j t r a b => sqt_upd (h2.at_ j t r a b) h0 im⟩⟩, by rw [upd_ne (Ne.symm n4)]; exact h.nu, h.qd.upd n5, h.rd.set n6 e, h.kn, by rw [List.length_set]; exact h.kb, h.nd, h.ka, h.ra⟩
end
end G
/-! o.m(*e, k = v) -/
namespace G
open PySem PySem.Spec PyProof.Rows L2 StX PySem.Calls PySem.W
theorem ks_loneK {M : Model} {A : Around} {E : Value → Shared → Prop} {s : Shared} {f : Value} {x : Sem Value} {pos : Pos} {keywords : List (Option Str × Sem Value)} {Q : Args → Shared → Prop} (hall : keywords.all (·.1.isSome) = true)
    (h : wpAny M A x (fun v s₁ => wpAny M A (evalAll (keywords.map (·.2))) (fun ks s₂ => StarOf M A E v (fun vs s₃ => Q ⟨vs, (keywords.filterMap (·.1)).zip ks⟩ s₃) s₂) E s₁) E s) :
    wpAny M A (evalArgs f true [(true, (do let v ← x; standAt pos; pure v))] keywords) Q E s := by
  unfold evalArgs
  refine wpAny_bind (wpAny_bind (wpAny_mono h (fun v s₁ h₁ => wpAny_bind (wpAny_standAt (wpAny_pure ?_))) fun _ _ x => x))
  refine wpAny_holding ?_
  simp only [hall, if_true]
  refine wpAny_bind (wpAny_mono h₁ (fun ks s₂ h₂ => ?_) fun _ _ x => x)
  unfold StarOf at h₂
  refine wpAny_bind (wpAny_bind (wpAny_mono h₂ (fun b s₃ h₃ => ?_) fun _ _ x => x))
  obtain ⟨rfl, h₃⟩ := h₃
  have z := wpAny_holding (vs := ((keywords.filterMap (·.1)).zip ks).map (·.2)) (wpAny_mono h₃ (fun vs s₄ h₄ => (wpAny_pure h₄ : wpAny M A (pure (⟨vs, (keywords.filterMap (·.1)).zip ks⟩ : Args)) Q E s₄)) fun _ _ x => x)
  try simp only [Bool.false_eq_true, if_false]
  first
    | exact z
    | exact wpAny_bind (wpAny_pure z)
theorem ks_callK {M : Model} {A : Around} {E : Value → Shared → Prop} {s : Shared} {f : Value} {first : List Value} {pos : Pos} {Q : Value → Shared → Prop} {P : Heap → Prop} {args : List (Bool × Sem Value)} {keywords : List (Option Str × Sem Value)} (hst : args.any (·.1) = true)
    (hk : ∀ h, P h → ∃ k, (k = Keeper.frame ∨ k = Keeper.machine ∨ k = Keeper.boundFrame) ∧ Looks M h (keeperOf f) k)
    (h : wpAny M A (evalArgs f true args keywords) (fun a s₁ => P s₁.heap ∧ wpAny M A (call f (first ++ a.pos) a.kw) Q E s₁) E s) : wpAny M A (callWith pos f first args keywords) Q E s := by
  unfold callWith
  refine wpAny_bind (wpAny_holding (wpAny_mono h (fun a s₁ h₁ => wpAny_bind (wpAny_standAt ?_)) fun _ _ x => x))
  obtain ⟨k, hk', L⟩ := hk _ h₁.1
  simp only [hst, Bool.true_or]
  refine wpAny_bind (L.here ?_)
  have tail : ∀ {t : Sem Value}, wpAny M A t Q E s₁ → wpAny M A (t >>= fun r => holding [r] point >>= fun _ => pure r) Q E s₁ :=
    fun ht => wpAny_bind (wpAny_mono ht (fun r s₂ hr => wpAny_bind (wpAny_holding (wpAny_point (wpAny_pure hr)))) fun _ _ x => x)
  have marked (mk : Value) : wpAny M A (callMarked mk f (first ++ a.pos) a.kw) Q E s₁ := by unfold callMarked; exact Calls.wpAny_keep h₁.2
  rcases hk' with rfl | rfl | rfl <;> dsimp only <;> first | exact tail (marked _) | exact tail (wpAny_operating h₁.2)
/-- a method taken off its instance -/
structure MkB (Γ : Gm) (k : Nat) (C : Addr) (m : Str) (g : Addr) (ks : List Str) (sp : List V → List V → Hp → VK → XK → Prop) : Prop where
  fn : FnRk Γ.P Γ.w Γ.K Γ.mg Γ.base CX0 k g ks sp
  c : Cls Γ.K C
  b : BMeth Γ.K C m g
theorem codeRk {X : Cx} {pins : List (Addr × Obj)} {σ : L2.St} {H : Hp} {s : Shared} {k : Nat} {f : Addr} {ks : List Str} {sp : List V → List V → Hp → VK → XK → Prop} {E : XK} {Q : VK} {us ws : List Value} {vs zs : List V} (F : FnRk X.prog X.w X.K X.mg X.base CX0 k f ks sp) (hr : Room k X.A) (I : Inv X pins σ H s) (r : Vals vs us) (rz : Vals zs ws) (hl : zs.length = ks.length) (h : sp vs zs H Q E) :
    codeAny (model X.prog X.w) X.A (.call (.ref f) ⟨us, ks.zip ws⟩) (fun r s' => match r with | .ok (.ret v) => EP X pins σ Q v s' | .ok _ => False | .error e => X.xe e s') s := by
  refine codeAny_mono (F X.A X.stack s H us ws vs zs Q E hr I.env0 r rz hl h) fun r s' hq => ?_
  cases r with
  | error e => exact (passE (X := X) (E := E)) pins σ H s e s' I hq
  | ok fl =>
    cases fl with
    | ret u => exact I.after hq
    | next => exact False.elim hq
    | brk => exact False.elim hq
    | cont => exact False.elim hq
/-- o.m(*e, k = v) -/
def tMkS (Γ : Gm) (m : Str) (ks : List Str) (ta te : TE) (tk : TA) : TE := fun σ H Q => ta σ H fun x H1 => ∃ (n : Nat) (C a dx g : Addr) (fs : List (Str × V)) (sp : List V → List V → Hp → VK → XK → Prop) (E : XK), MkB Γ n C m g ks sp ∧ n ≤ Γ.lv ∧ x = .ref a ∧ H1 a = some (.ins C dx fs) ∧ fs.lookup m = none ∧
  ∀ q, H1 q = none → te σ (L2.upd H1 q (.met g a)) fun y H2 => ∃ p, y = .ref p ∧ tk σ H2 fun zs H3 => ∃ xs, (SqT Γ.K H3 p xs ∨ SqL Γ.K H3 p xs) ∧ H3 q = some (.met g a) ∧ zs.length = ks.length ∧ sp (.ref a :: xs) zs H3 Q E
section
variable {Γ : Gm} {X : Cx} {m : Str} {o e : Expr} {kws : List Keyword} {ks : List Str} {ta te : TE} {tk : TA} {pos apos sp_ : Pos}
theorem pe_mkS (g : Good Γ X) (ho : PE X o ta) (ha : PE X e te) (hkw : PK X kws tk) (hall : (backToKw pos (keywordEach kws X.env)).all (·.1.isSome) = true := by rfl) (hks : (backToKw pos (keywordEach kws X.env)).filterMap (·.1) = ks := by rfl)
    (hst : starEach [.Starred e sp_] X.env = [(true, eval e X.env)] := by rfl) (hbase : attributeBase o m X.env (eval o X.env) = eval o X.env := by rfl) :
    PE X (.Call (.Attribute o m apos) [.Starred e sp_] kws pos) (tMkS Γ m ks ta te tk) := by
  refine ⟨fun pins s σ H Q I h => ?_⟩
  have hform : methodCallForm ([Expr.Starred e sp_].length + kws.length) (backTo pos [(true, eval e X.env)]) (backToKw pos (keywordEach kws X.env)) = false := rfl
  have hpos : methodCallPos false o X.env apos pos = pure pos := rfl
  have hcal : ∀ ov, calleeOf false o X.env ov m = (getAttr ov m true >>= fun v => pure (v, [])) := fun _ => rfl
  rw [arm_eval_Call, hbase, hst]
  refine wpAny_bind (wpAny_mono (ho.run pins s σ H _ I h) (fun u s1 ⟨x, H1, I1, rx, n, C, a, dx, g', fs, sp, E, M, hn, ex, ea, l, q⟩ => ?_) fun _ _ x => x)
  subst ex
  obtain rfl : u = Value.ref a := rx
  obtain ⟨P, w, K, mg, base, lv⟩ := Γ
  obtain ⟨h1, h2, h3, h4, h5, _, hr⟩ := g
  simp only at h1 h2 h3 h4 h5 hr
  subst h1 h2 h3 h4 h5
  refine wpAny_bind (wpAny_standAt ?_)
  unfold methodCall
  rw [hform, hpos, hcal]
  refine wpAny_bind (wpAny_holding (wpAny_bind (getbound_ok I1 ea M.c M.b l fun q1 s2 hq1 I2 => wpAny_pure ?_)))
  refine wpAny_bind (wpAny_pure ?_)
  refine ks_callK (P := PySem.W.MethP X.K q1 g' (.ref a)) rfl (PySem.W.keeps_M M.b.fi) ?_
  refine ks_loneK hall (wpAny_mono (ha.run pins s2 σ _ _ I2 (q q1 hq1)) (fun v s3 ⟨y, H2, I3, ry, p, ey, q2⟩ => ?_) fun _ _ x => x)
  subst ey
  obtain rfl : v = Value.ref p := ry
  refine wpAny_mono (hkw.run pos pins s3 σ H2 _ I3 q2) (fun ws s4 ⟨zs, H3, I4, rz, xs, hxs, hm, lz, q3⟩ => ?_) fun _ _ x => x
  refine star_any I4 hxs fun us s5 I5 rv => ⟨met_P I5 hm, ?_⟩
  rw [hks]
  exact wpAny_call (PySem.W.method_call (met_P I5 hm).1 (codeRk (us := .ref a :: us) (vs := .ref a :: xs) M.fn (hr.mono hn) I5 (.cons rfl rv) rz lz q3))
end
/-- o.m(e, *y) -/
def tMkS2 (Γ : Gm) (m : Str) (ta t1 t2 : TE) : TE := fun σ H Q => ta σ H fun x H1 => ∃ (n : Nat) (C a dx g : Addr) (fs : List (Str × V)) (sp : List V → List V → Hp → VK → XK → Prop) (E : XK), MkB Γ n C m g [] sp ∧ n ≤ Γ.lv ∧ x = .ref a ∧ H1 a = some (.ins C dx fs) ∧ fs.lookup m = none ∧
  ∀ q, H1 q = none → t1 σ (L2.upd H1 q (.met g a)) fun y1 H2 => t2 σ H2 fun y2 H3 => ∃ b vs, y2 = .ref b ∧ (SqT Γ.K H3 b vs ∨ SqL Γ.K H3 b vs) ∧ H3 q = some (.met g a) ∧ sp (.ref a :: y1 :: vs) [] H3 Q E
section
variable {Γ : Gm} {X : Cx} {m : Str} {o e1 e2 : Expr} {ta t1 t2 : TE} {pos apos p : Pos}
theorem pe_mkS2 (g : Good Γ X) (he : PE X o ta) (h1 : PE X e1 t1) (h2 : PE X e2 t2) (hbase : attributeBase o m X.env (eval o X.env) = eval o X.env := by rfl)
    (hst : starEach [e1, .Starred e2 p] X.env = [(false, eval e1 X.env), (true, eval e2 X.env)] := by rfl) : PE X (.Call (.Attribute o m apos) [e1, .Starred e2 p] [] pos) (tMkS2 Γ m ta t1 t2) := by
  refine ⟨fun pins s σ H Q I h => ?_⟩
  refine starcall2_of hbase hst (thn (he.run pins s σ H _ I h) fun u s1 ⟨x, H1, I1, rx, n, C, a, dx, g', fs, sp, E, M, hn, ex, ea, l, q⟩ => ?_)
  subst ex
  obtain rfl : u = Value.ref a := rx
  obtain ⟨P, w, K, mg, base, lv⟩ := Γ
  obtain ⟨k1, k2, k3, k4, k5, _, hr⟩ := g
  simp only at k1 k2 k3 k4 k5 hr
  subst k1 k2 k3 k4 k5
  refine getbound_ok I1 ea M.c M.b l fun q1 s2 hq1 I2 => ?_
  refine PySem.W.ks_call (P := PySem.W.MethP X.K q1 g' (.ref a)) rfl (PySem.W.keeps_M M.b.fi) (Calls.evalArgs_plain (Calls.spliced_cons (thn (h1.run pins s2 σ _ _ I2 (q q1 hq1)) fun v1 s3 ⟨y1, H2, I3, ry1, q2⟩ =>
    PySem.W.ks_spliced (thn (h2.run pins s3 σ H2 _ I3 q2) fun v2 s4 ⟨y2, H3, I4, ry2, t, vs, ey, ht, hm, hsp⟩ => ?_))))
  subst ey
  obtain rfl : v2 = Value.ref t := ry2
  refine StX.star_any I4 ht fun us s5 I5 rv => Calls.spliced_nil ?_
  show PySem.W.MethP X.K q1 g' (.ref a) s5.heap ∧ wpAny (model X.prog X.w) X.A (call (.ref q1) (v1 :: (us ++ [])) []) (EP X pins σ Q) X.xe s5
  rw [List.append_nil]
  exact ⟨met_P I5 hm, wpAny_call (PySem.W.method_call (met_P I5 hm).1 (codeRk (us := Value.ref a :: v1 :: us) (ws := []) (zs := []) (vs := V.ref a :: y1 :: vs) M.fn (hr.mono hn) I5 (.cons rfl (.cons ry1 rv)) .nil rfl hsp))⟩
end
end G
/-! what looks and tests answer at a row of a table, plainly -/
namespace G
open PySem PySem.Spec PyProof.Rows L2
/-- the links of a kind, there and back -/
def ixK (ks : List Str) (k : Str) : Option Nat := ks.findIdx? fun z => decide (z = k)
def stepB (B : Tb) (k : Str) (d : Int) (r : Nat) : Option Nat := match ixK B.ks k with
  | none => none
  | some i => if 0 < d then (B.nx[i]?).bind fun m => nxt m r else (B.bf[i]?).bind fun m => nxt m r
def marksB (B : Tb) (r : Nat) : List Str := match B.rows[r]? with
  | some u => u.1
  | none => []
/-- the row a look gives, and whether a test holds -/
def Tr.ev (B : Tb) : Tr → Nat → Option Nat × Bool
  | .z _, r => (some r, true)
  | .st k d, r => (stepB B k d r, false)
  | .mk k, r => (none, decide (k ∈ marksB B r))
  | .one w a, r => if w = Str.ofString "found" then (none, (Tr.ev B a r).1.isSome) else (none, !(Tr.ev B a r).2)
  | .two w a b, r =>
    let x := Tr.ev B a r
    let y := Tr.ev B b r
    if w = Str.ofString "when" then (if y.2 then x.1 else none, false)
    else if w = Str.ofString "then" then (match x.1 with
      | none => none
      | some o => (Tr.ev B b o).1, false)
    else if w = Str.ofString "or" then (match x.1 with
      | some o => some o
      | none => y.1, x.2 || y.2)
    else if w = Str.ofString "and" then (if x.1 = y.1 then x.1 else none, x.2 && y.2)
    else if w = Str.ofString "same" then (none, x.1.isSome && decide (x.1 = y.1))
    else (none, x.2 != y.2)
end G
/-! instances that are called; is True; isinstance of several; lists of truths -/
namespace G
open PySem PySem.Spec PyProof.Rows L2 StX
theorem codeFn {X : Cx} {pins : List (Addr × Obj)} {σ : L2.St} {H : Hp} {s : Shared} {k : Nat} {f : Addr} {fd : FuncData} {ps : List Str} {sp : Sp} {E : XK} {Q : VK} {us ds : List Value} {vs dvs : List V} (F : FnOk X.prog X.w X.K X.mg X.base CX0 k f fd ps sp) (hr : Room k X.A) (hb : Binds X.K fd ps ds) (hd : Vals dvs ds) (I : Inv X pins σ H s) (r : Vals vs us) (h : sp (vs ++ dvs) H Q E) :
    codeAny (model X.prog X.w) X.A (.call (.ref f) ⟨us, []⟩) (fun r s' => match r with | .ok (.ret v) => EP X pins σ Q v s' | .ok _ => False | .error e => X.xe e s') s := by
  have r2 : Vals (vs ++ dvs) (us ++ ds) := r.append hd
  have hl : (us ++ ds).length = ps.length := by rw [← r2.length]; exact F.len _ _ _ _ h
  refine codeAny_mono (F.run X.A X.stack s H ⟨us, []⟩ (us ++ ds) (vs ++ dvs) Q E hr I.env0 (hb s us I.kIn hl) r2 h) fun r s' hq => ?_
  cases r with
  | error e => exact (passE (X := X) (E := E)) pins σ H s e s' I hq
  | ok fl =>
    cases fl with
    | ret u => exact I.after hq
    | next => exact False.elim hq
    | brk => exact False.elim hq
    | cont => exact False.elim hq
/-- instances of C may be called -/
def CallC (K : PySem.W.Frag) (C : Addr) : Prop := ∀ f, Meth K C "__call__" f → PySem.W.fnIn K f = true
/-- f(e, ..), f an instance -/
def tCallI (Γ : Gm) (tf : TE) (t : TA) : TE := fun σ H Q => tf σ H fun y H1 => ∃ (n : Nat) (C a : Addr) (sp : Sp) (E : XK), Mt Γ CX0 n C "__call__" sp [] ∧ CallC Γ.K C ∧ n ≤ Γ.lv ∧ y = .ref a ∧ t σ H1 fun vs H2 => (∃ dx fs, H2 a = some (.ins C dx fs)) ∧ sp (.ref a :: vs) H2 Q E
section
variable {Γ : Gm} {X : Cx} {fe e : Expr} {es : List Expr} {tf : TE} {t : TA} {pos : Pos}
theorem pe_callI (g : Good Γ X) (hf : PE X fe tf) (ha : PA X (e :: es) t)
    (ht : eval (.Call fe (e :: es) [] pos) X.env = (do callWith pos (← eval fe X.env) [] (backTo pos (starEach (e :: es) X.env)) (backToKw pos (keywordEach [] X.env))) := by rfl)
    (he : starEach (e :: es) X.env = (false, eval e X.env) :: starEach es X.env := by rfl) (hpl : (backTo pos (starEach es X.env)).any (·.1) = false := by rfl) : PE X (.Call fe (e :: es) [] pos) (tCallI Γ tf t) := by
  refine ⟨fun pins s σ H Q I h => ?_⟩
  refine Call_ (thn (hf.run pins s σ H _ I h) fun u s1 ⟨y, H1, I1, ry, n, C, a, sp, E, M, cc, hn, ey, q⟩ => ?_) ht
  subst ey
  obtain rfl : u = Value.ref a := ry
  obtain ⟨P, w, K, mg, base, lv⟩ := Γ
  obtain ⟨h1, h2, h3, h4, h5, _, hr⟩ := g
  simp only at h1 h2 h3 h4 h5 hr
  subst h1 h2 h3 h4 h5
  obtain ⟨f, fd, ps, ds, F, c, hm, hbi, hd⟩ := M.ex
  refine callO_with (thn (ha.run pos pins s1 σ H1 _ I1 q) fun us s2 ⟨vs, H2, I2, r, ⟨dx, fs, hi⟩, q2⟩ => ?_) he hpl
  obtain ⟨ox, od, J, hp⟩ := insC_at (X := X) I2 (.inr ⟨dx, fs, hi⟩)
  exact ⟨⟨C, ox, od, J, hp⟩, wpAny_call (PySem.W.kco_code I2.kIn J hp hm.at_ hm.fn (cc f hm) (codeFn (us := .ref a :: us) (vs := .ref a :: vs) F (hr.mono hn) hbi hd I2 (.cons rfl r) (show sp ((V.ref a :: vs) ++ []) H2 Q E from by rw [List.append_nil]; exact q2)))⟩
theorem op_isB : OpR X (compareOp .Is) (fun x y H Q => ∃ p c, x = .bl p ∧ y = .bl c ∧ Q (.bl (decide (p = c))) H) := by
  intro pins s σ H x y v u Q I rx ry ⟨p, c, ex, ey, q⟩
  subst ex ey
  cases rx
  cases ry
  show wpAny _ _ ((isSame (Value.bool p) (Value.bool c)) >>= fun z => pure (Value.bool z)) _ _ s
  refine wpAny_bind (wpAny_isSame_plain (by cases p <;> cases c <;> rfl) (wpAny_pure (fin_bl I q ?_)))
  cases p <;> cases c <;> rfl
theorem op_isnotB : OpR X (compareOp .IsNot) (fun x y H Q => ∃ p c, x = .bl p ∧ y = .bl c ∧ Q (.bl (!decide (p = c))) H) := by
  intro pins s σ H x y v u Q I rx ry ⟨p, c, ex, ey, q⟩
  subst ex ey
  cases rx
  cases ry
  show wpAny _ _ ((isSame (Value.bool p) (Value.bool c)) >>= fun z => pure (Value.bool (!z))) _ _ s
  refine wpAny_bind (wpAny_isSame_plain (by cases p <;> cases c <;> rfl) (wpAny_pure (fin_bl I q ?_)))
  cases p <;> cases c <;> rfl
end
section
variable {Γ : Gm} {H : Hp} {Q : VK} {p c : Bool}
theorem wo_isB (q : Q (.bl (decide (p = c))) H) : WO Γ (compareOp .Is) (.bl p) (.bl c) H Q := ⟨_, fun X g => op_isB, p, c, rfl, rfl, q⟩
theorem wo_notB (q : Q (.bl (!decide (p = c))) H) : WO Γ (compareOp .IsNot) (.bl p) (.bl c) H Q := ⟨_, fun X g => op_isnotB, p, c, rfl, rfl, q⟩
theorem wc_isiT {x : V} {tp : Addr} {cs : List V} {t : Value} {us : List Value} {b : Bool} (hT : H tp = some (.tup cs)) (k : Paired ClsV cs us) (ty : TyX Γ.K H x t) (e : PySem.W.kitAny Γ.K t us = some b) (q : Q (.bl b) H) : WC Γ (.builtin "isinstance") [x, .ref tp] H Q :=
  ⟨rIsiT Γ.K, fun X g => (by have := call_isiT (X := X); rw [g.K] at this; exact this), x, tp, cs, t, us, b, rfl, hT, k, ty, e, q⟩
end
section
variable {K : PySem.W.Frag} {a b : Addr} {xs ys : List V}
theorem walk_zipT {n : Nat} (hn : n = min xs.length ys.length) : Walk (RZ.ItzT K a b) n (fun H => SqT K H a xs ∧ SqT K H b ys) (YPair (fun i => xs[i]?) (fun i => ys[i]?)) := by
  subst hn
  refine ⟨fun i _ hi q => ?_, fun _ q => ⟨xs, ys, q.1, q.2, by omega⟩, fun i H v H' _ q y => ?_⟩
  · have h1 : i < xs.length := by omega
    have h2 : i < ys.length := by omega
    exact ⟨xs, ys, xs[i], ys[i], q.1, q.2, by simp [h1], by simp [h2]⟩
  · obtain ⟨T, x, z, h1, h2, h3, h4, h5⟩ := y
    exact ⟨T, x, z, h1, h2, h3, h4 xs q.1, h5 ys q.2⟩
theorem pi_zA {Γ : Gm} {X : Cx} {e e2 : Expr} {ta : TA} {p pos tpos : Pos} {elts : List Expr} {kk : Nat} (g : Good Γ X) (hg : gvB X.env.scope "zip" = true) (hm : X.mg "zip" = none) (ha : PA X [e, e2] ta)
    (hs : starEach [e, e2] X.env = (false, eval e X.env) :: starEach [e2] X.env := by rfl) (hpl : (backTo pos (starEach [e2] X.env)).any (·.1) = false := by rfl) :
    PI X (.Tuple elts kk tpos) (.Call (.Name "zip" p) [e, e2] [] pos) (RZ.iZipA Γ.K ta) := by rw [← g.K]; exact RZ.pi_zipA (gv_of hg).1 hm ha hs hpl
theorem sql_ty {p : Addr} {H : Hp} {xs : List V} (h : SqL K H p xs) : TyX K H (.ref p) (.type "list") := by
  rcases h with (h | ⟨o, h⟩) | ⟨o, its, n, h1, h2, h3, h4, h5, h6⟩
  · exact .base (.lst h)
  · exact .base (.frz h)
  · exact .kList h1 h2
end
/-! ### data of few items -/
mutual
def few : PyData → Prop
  | .list ds => ds.length < 100000 ∧ fewA ds
  | .tuple ds => ds.length < 100000 ∧ fewA ds
  | _ => True
def fewA : List PyData → Prop
  | [] => True
  | d :: ds => few d ∧ fewA ds
end
theorem fewA_mem : ∀ {ds : List PyData} {d : PyData}, fewA ds → d ∈ ds → few d
  | _ :: _, _, h, .head _ => h.1
  | _ :: _, _, h, .tail _ m => fewA_mem h.2 m
theorem depthA_mem : ∀ {ds : List PyData} {d : PyData}, d ∈ ds → d.depth ≤ PyData.depthAll ds
  | d :: ds, _, .head _ => by simp only [PyData.depthAll]; omega
  | _ :: ds, d, .tail _ m => by have := depthA_mem m; simp only [PyData.depthAll]; omega
theorem DpAll.at_ {K : PySem.W.Frag} {H : Hp} : ∀ {xs : List V} {ds : List PyData}, DpAll K H xs ds → ∀ {i : Nat} {x : V}, xs[i]? = some x → ∃ d, ds[i]? = some d ∧ Dp K H x d
  | _, _, .cons h _, 0, _, e => by cases e; exact ⟨_, rfl, h⟩
  | _, _, .cons _ t, i + 1, _, e => DpAll.at_ t e
theorem DpAll.len {K : PySem.W.Frag} {H : Hp} : ∀ {xs : List V} {ds : List PyData}, DpAll K H xs ds → xs.length = ds.length
  | _, _, .nil => rfl
  | _, _, .cons _ t => congrArg (· + 1) (DpAll.len t)
mutual
theorem Dp.same {K : PySem.W.Frag} {H H' : Hp} (s : Same H H') : ∀ {x : V} {d : PyData}, Dp K H x d → Dp K H' x d
  | _, _, .non => .non
  | _, _, .bl b => .bl b
  | _, _, .int i => .int i
  | _, _, .str x => .str x
  | _, _, .lst h t => .lst ((Fr.of (S := []) s).sql h List.not_mem_nil) (DpAll.same s t)
  | _, _, .tup h t => .tup ((Fr.of (S := []) s).sqt h List.not_mem_nil) (DpAll.same s t)
theorem DpAll.same {K : PySem.W.Frag} {H H' : Hp} (s : Same H H') : ∀ {xs : List V} {ds : List PyData}, DpAll K H xs ds → DpAll K H' xs ds
  | _, _, .nil => .nil
  | _, _, .cons h t => .cons (Dp.same s h) (DpAll.same s t)
end
def dty : PyData → String
  | .none => "NoneType"
  | .bool _ => "bool"
  | .int _ => "int"
  | .str _ => "str"
  | .list _ => "list"
  | _ => "tuple"
theorem Dp.ty {K : PySem.W.Frag} {H : Hp} {x : V} {d : PyData} (h : Dp K H x d) : TyX K H x (.type (dty d)) := by
  cases h with
  | non => exact .base .non
  | bl b => exact .base (.bl b)
  | int i => exact .base (.int i)
  | str z => exact .base (.str z)
  | lst h _ => exact sql_ty h
  | tup h _ => exact sqt_ty h
theorem kit2 {K : PySem.W.Frag} {a b c : String} {r1 r2 : Bool} (h1 : kitB a b = some r1) (h2 : kitB a c = some r2) : PySem.W.kitAny K (.type a) [.type b, .type c] = some (r1 || r2) := by
  refine kitAny_cons (kit_ty h1) (fun e => ?_) (fun e => by rw [e]; rfl)
  rw [e]
  exact kitAny_cons (kit_ty h2) (fun e2 => by rw [e2]; rfl) (fun e2 => by rw [e2]; rfl)
theorem wc_isi1 {Γ : Gm} {H : Hp} {Q : VK} {x : V} {d : PyData} {b : String} {r : Bool} (h : Dp Γ.K H x d) (k : kitB (dty d) b = some r) (q : Q (.bl r) H) : WC Γ (.builtin "isinstance") [x, .ty b] H Q := wc_isi (.ty b) (Dp.ty h) (kit_ty k) q
theorem wc_isi2 {Γ : Gm} {H : Hp} {Q : VK} {x : V} {d : PyData} {b c : String} {r1 r2 : Bool} {T : Addr} (h : Dp Γ.K H x d) (hT : H T = some (.tup [.ty b, .ty c])) (k1 : kitB (dty d) b = some r1) (k2 : kitB (dty d) c = some r2) (q : Q (.bl (r1 || r2)) H) : WC Γ (.builtin "isinstance") [x, .ref T] H Q :=
  wc_isiT hT (.cons (.ty b) (.cons (.ty c) .nil)) (Dp.ty h) (kit2 k1 k2) q
end G
/-! tuple + tuple, tuple * int, whatever they are -/
namespace G
open PySem PySem.Spec PyProof.Rows L2
theorem tuple_mulS (l : Addr) (items : Array Value) (n : Nat) (dd : Option Addr) (sl : Array (Option Value)) (x : Int) (u : Tok) (c0 : (decide (x < -(2 ^ 63)) || decide (x ≥ 2 ^ 63)) = false) (c1 : (items.isEmpty || x == 1) = true) :
    Meets (Builtin.«tuple.__mul__» ⟨[.ref l, .int x u], []⟩) (fun _ R s => s.heap.get? l = some { cls := .type "tuple", dict := dd, data := .seq items n, slots := sl } ∧
      R (.ok (.ret (Value.ref l))) s) :=
  .of_wp fun prog w A R s h => by
    obtain ⟨hp, g, d, tk, os⟩ := s
    obtain ⟨hl, h⟩ := h
    have f1 := AutoSeq1.idx_int
    wp_walk using wpAny_loadPart' hl
    refine wpAny_ite_false (decide_eq_false (by rw [c0]; exact Bool.false_ne_true)) ?_
    wp_walk using wpAny_loadPart' hl
    exact ⟨_, rfl, h⟩
theorem tuple_mul0 (l : Addr) (items : Array Value) (n : Nat) (dd : Option Addr) (sl : Array (Option Value)) (x : Int) (u : Tok) (c0 : (decide (x < -(2 ^ 63)) || decide (x ≥ 2 ^ 63)) = false) (c1 : (items.isEmpty || x == 1) = false) (c2 : (decide (x ≤ 0) || items.isEmpty) = true) :
    Meets (Builtin.«tuple.__mul__» ⟨[.ref l, .int x u], []⟩) (fun _ R s => s.heap.get? l = some { cls := .type "tuple", dict := dd, data := .seq items n, slots := sl } ∧
      R (.ok (.ret (Value.ref s.heap.objs.size))) { s with heap := s.heap.push { cls := Value.type "tuple", data := Data.seq #[] }, toks := s.toks }) :=
  .of_wp fun prog w A R s h => by
    obtain ⟨hp, g, d, tk, os⟩ := s
    obtain ⟨hl, h⟩ := h
    have f1 := AutoSeq1.idx_int
    wp_walk using wpAny_loadPart' hl
    refine wpAny_ite_false (decide_eq_false (by rw [c0]; exact Bool.false_ne_true)) ?_
    wp_walk using wpAny_loadPart' hl
    repeat (first
      | (refine wpAny_ite_false (decide_eq_false (by rw [c1]; exact Bool.false_ne_true)) ?_; wp_walk using wpAny_loadPart' hl)
      | (refine wpAny_ite_true (decide_eq_true (by rw [c2])) ?_; wp_walk using wpAny_loadPart' hl))
    exact ⟨_, rfl, h⟩
section
variable {X : Cx}
def rRepS (K : PySem.W.Frag) : R2 := fun x y H Q => ∃ l k xs, x = .ref l ∧ y = .int k ∧ SqT K H l xs ∧ (xs = [] ∨ k = 1) ∧ 0 ≤ k ∧ k ≤ 1000 ∧ Q (.ref l) H
theorem op_repS : OpR X (binaryOp .Mult) (rRepS X.K) := by
  intro pins s σ H x y v u Q I rx ry h
  obtain ⟨l, k, xs, rfl, rfl, hT, hne, h1, h2, q⟩ := h
  cases rx
  obtain ⟨t, rfl⟩ := ry
  obtain ⟨its, r, ⟨⟨cls, dd, data, sl⟩, ho, hc, n, hd⟩, hs⟩ := I.tuple hT
  simp only at hc hd
  subst hc hd
  have hle : its.length = xs.length := r.length.symm
  have c0 : (decide (k < -(2 ^ 63)) || decide (k ≥ 2 ^ 63)) = false := by
    rw [decide_eq_false (by omega), decide_eq_false (by omega)] <;> rfl
  have c1 : (its.toArray.isEmpty || k == 1) = true := by
    rcases hne with e | e
    · have : its = [] := List.eq_nil_of_length_eq_zero (by rw [hle, e]; rfl)
      rw [this]
      rfl
    · rw [e]
      simp
  refine wpAny_binaryOp_repeat_ref (T := "tuple") (U := "int") (by decide) ⟨_, ho, rfl⟩ (fun s' => typeIs_int s' k t) noFill_tuple_mul F.fills_int_mul F.slot_int_rmul repeat_tuple F.slot_int_index.lookup
    (call_meets F.slot_int_rmul (typeIs_int s k t) F.entry_int_rmul (F.args_int_rmul_2 _ _) (int_rmul_tuple k t l its.toArray n dd sl)
      ⟨ho, rfl, ⟨_, ho, rfl⟩, call_meets F.slot_tuple_mul ⟨_, ho, rfl⟩ F.entry_tuple_mul (F.args_tuple_mul_2 _ _) (tuple_mulS l its.toArray n dd sl k t c0 c1) ⟨ho, ?_⟩⟩)
  exact ⟨.ref l, H, I, rfl, q⟩
def rRep0 (K : PySem.W.Frag) : R2 := fun x y H Q => ∃ l xs, x = .ref l ∧ y = .int 0 ∧ SqT K H l xs ∧ xs ≠ [] ∧ ∀ p, H p = none → Q (.ref p) (upd H p (.tup []))
theorem op_rep0 : OpR X (binaryOp .Mult) (rRep0 X.K) := by
  intro pins s σ H x y v u Q I rx ry h
  obtain ⟨l, xs, rfl, rfl, hT, hne, q⟩ := h
  cases rx
  obtain ⟨t, rfl⟩ := ry
  obtain ⟨its, r, ⟨⟨cls, dd, data, sl⟩, ho, hc, n, hd⟩, hs⟩ := I.tuple hT
  simp only at hc hd
  subst hc hd
  have hle : its.length = xs.length := r.length.symm
  have hn : its ≠ [] := fun e => hne (by
    rw [e] at hle
    exact List.eq_nil_of_length_eq_zero hle.symm)
  have hi : its.toArray.isEmpty = false := by
    cases its with
    | nil => exact absurd rfl hn
    | cons a b => rfl
  have c0 : (decide ((0 : Int) < -(2 ^ 63)) || decide ((0 : Int) ≥ 2 ^ 63)) = false := by decide
  have c1 : (its.toArray.isEmpty || (0 : Int) == 1) = false := by
    rw [hi, Bool.false_or]
    rfl
  have c2 : (decide ((0 : Int) ≤ 0) || its.toArray.isEmpty) = true := by simp
  refine wpAny_binaryOp_repeat_ref (T := "tuple") (U := "int") (by decide) ⟨_, ho, rfl⟩ (fun s' => typeIs_int s' 0 t) noFill_tuple_mul F.fills_int_mul F.slot_int_rmul repeat_tuple F.slot_int_index.lookup
    (call_meets F.slot_int_rmul (typeIs_int s 0 t) F.entry_int_rmul (F.args_int_rmul_2 _ _) (int_rmul_tuple 0 t l its.toArray n dd sl)
      ⟨ho, rfl, ⟨_, ho, rfl⟩, call_meets F.slot_tuple_mul ⟨_, ho, rfl⟩ F.entry_tuple_mul (F.args_tuple_mul_2 _ _) (tuple_mul0 l its.toArray n dd sl 0 t c0 c1 c2) ⟨ho, ?_⟩⟩)
  refine ⟨.ref s.heap.objs.size, _, I.laid (t' := s.toks) (o := .tup []) (fun b ob q => Heap.get?_push_of_some _ q) (Nat.le_refl _) ?_, rfl, q _ (I.hok.fresh (Nat.le_refl _))⟩
  exact ⟨Nat.zero_le _, [], .nil, IsTup.new _ _⟩
end
section
variable {Γ : Gm} {H : Hp} {Q : VK} {l b : Addr} {xs ys : List V}
/-- t * n -/
theorem wo_repA {n : Nat} (h : SqT Γ.K H l xs) (hn : n ≤ 1000) (hl : xs.length ≤ 1000) (q : ∀ p H', Same H H' → SqT Γ.K H' p (List.replicate n xs).flatten → Q (.ref p) H') : WO Γ (binaryOp .Mult) (.ref l) (.int n) H Q := by
  by_cases h1 : xs = [] ∨ n = 1
  · have e : (List.replicate n xs).flatten = xs := by
      rcases h1 with h1 | h1
      · rw [h1]; simp
      · rw [h1]; simp
    exact ⟨rRepS Γ.K, fun X g => (by have := op_repS (X := X); rw [g.K] at this; exact this), l, n, xs, rfl, rfl, h, h1.imp id (fun e => by rw [e]; rfl), by omega, by omega, q l H (Same.refl _) (by rw [e]; exact h)⟩
  · have hne : xs ≠ [] := fun z => h1 (.inl z)
    match n with
    | 0 => exact ⟨rRep0 Γ.K, fun X g => (by have := op_rep0 (X := X); rw [g.K] at this; exact this), l, xs, rfl, rfl, h, hne, fun p hp => q p _ (Same.mk hp) (SqT.of upd_same)⟩
    | 1 => exact absurd (.inr rfl) h1
    | n + 2 => exact ⟨rRepT Γ.K, fun X g => (by have := op_repT (X := X); rw [g.K] at this; exact this), l, ((n + 2 : Nat) : Int), xs, rfl, rfl, h, hne, by omega, by omega, hl, fun p hp => q p _ (Same.mk hp) (by rw [Int.toNat_natCast]; exact SqT.of upd_same)⟩
/-- t + u -/
theorem wo_catT (ha : SqT Γ.K H l xs) (hb : SqT Γ.K H b ys) (hl : xs.length + ys.length ≤ sizeLine) (q : ∀ p H', Same H H' → SqT Γ.K H' p (xs ++ ys) → Q (.ref p) H') : WO Γ (binaryOp .Add) (.ref l) (.ref b) H Q :=
  ⟨rCatA Γ.K, fun X g => (by have := op_catA (X := X); rw [g.K] at this; exact this), l, b, xs, ys, rfl, rfl, ha, hb, hl, fun e => q b H (Same.refl _) (by rw [e]; exact hb), fun _ e => q l H (Same.refl _) (by rw [e, List.append_nil]; exact ha), fun _ _ p hp => q p _ (Same.mk hp) (SqT.of upd_same)⟩
end
end G
/-! what the top leaves: defs by their places, facts by Bools -/
namespace G
open PySem PySem.Spec PyProof.Rows L2
/-- a def: where it stands, its names, its statement, its defaults -/
structure DE where
  loc : PySem.W.Frag → Addr
  name : Str
  qual : Str
  st : Stmt
  dfl : PySem.W.Frag → List V := fun _ => []
  kwd : List (Str × V) := []
def DE.ok (K : PySem.W.Frag) (d : DE) : Bool := PySem.W.keepIn K (.ref (d.loc K)) && (match K.lookup (d.loc K) with
  | some ⟨_, _, .func fd, _⟩ => PySem.W.codeIn K fd.code d.qual && (He.dflB K fd.defaults (d.dfl K) && He.kwdB K fd.kwdefaults d.kwd)
  | _ => false)
def DE.fn (K : PySem.W.Frag) (d : DE) : He.FnW := match K.lookup (d.loc K) with
  | some ⟨_, _, .func fd, _⟩ => some (fd.name, fd.qualname, fd.params, fd.body, fd.scope, fd.globals, fd.closure, fd.builtins)
  | _ => none
def DE.val (d : DE) : He.FnW := some (d.name, d.qual, defArgs d.st, .stmts (defBody d.st), defScope d.st, mainGlobals, [], builtinsNs)
theorem DE.funD {K : PySem.W.Frag} {d : DE} (e : d.fn K = d.val) (c : d.ok K = true) : ∃ fd, FunD K d.name d.qual (defArgs d.st) (defBody d.st) (defScope d.st) (d.dfl K) d.kwd (d.loc K) fd := by
  obtain ⟨kp, c2⟩ := He.ba c
  unfold DE.fn at e
  cases q : K.lookup (d.loc K) with
  | none => rw [q] at c2; cases c2
  | some o =>
    obtain ⟨oc, od, dt, osl⟩ := o
    rw [q] at c2 e
    cases dt with
    | func fd =>
      obtain ⟨n1, n2, n3, n4, n5, n6, n7, n8, n9, n10, n11, n12, n13, n14, n15⟩ := fd
      have e2 : (some (n1, n2, n3, n4, n5, n6, n7, n15) : He.FnW) = some (d.name, d.qual, defArgs d.st, .stmts (defBody d.st), defScope d.st, mainGlobals, [], builtinsNs) := e
      simp only [Option.some.injEq, Prod.mk.injEq] at e2
      obtain ⟨h1, h2, h3, h4, h5, h6, h7, h8⟩ := e2
      subst h1 h2 h3 h4 h5 h6 h7 h8
      obtain ⟨k1, k2⟩ := He.ba (show (PySem.W.codeIn K n13 d.qual && (He.dflB K n8 (d.dfl K) && He.kwdB K n9 d.kwd)) = true from c2)
      obtain ⟨k2, k3⟩ := He.ba k2
      exact ⟨_, ⟨oc, od, n8, n9, n10, n11, n12, n13, n14, osl, rfl, q, k1, He.dflB_ok k2, He.kwdB_ok k3⟩, kp⟩
    | _ => cases c2
theorem fun_of {K : PySem.W.Frag} {x q : Str} {st : Stmt} {f : Addr} {fd : FuncData} (F : FunD K x q (defArgs st) (defBody st) (defScope st) [] [] f fd) : L2.Fun K x q st f fd := by
  obtain ⟨oc, od, dV, kV, doc, pm, an, cdv, ct, osl, e, lk, hcd, hD, _⟩ := F.ex
  rcases hD with ⟨_, rfl⟩ | ⟨h, _⟩
  · exact ⟨⟨oc, od, kV, doc, pm, an, cdv, ct, osl, e, lk, hcd⟩, F.kp⟩
  · exact absurd rfl h
/-- a property's getter -/
def ppA (K : PySem.W.Frag) (C m : Str) : Addr := He.ma K (He.ga K C) m
def pgA (K : PySem.W.Frag) (C m : Str) : Addr := match PySem.W.recIn K (ppA K C m) "property" with
  | some (.ref g :: _) => g
  | _ => 0
abbrev AlE : Type := Bool × List He.FnW
def obsE (ex : List (PySem.W.Frag → Bool)) (fn : List DE) (K : PySem.W.Frag) : AlE := ((ex.all fun f => f K) && fn.all fun d => d.ok K, fn.map fun d => d.fn K)
def valE (fn : List DE) : AlE := (true, fn.map DE.val)
def SaysE (ex : List (PySem.W.Frag → Bool)) (fn : List DE) (K : PySem.W.Frag) : Prop := obsE ex fn K = valE fn
def obsEG (n : Nat) (ex : List (PySem.W.Frag → Bool)) (fn : List DE) (g : Addr → Option Obj) : AlE := obsE ex fn (He.frG g (He.asD g n))
def hookE (n : Nat) (ex : List (PySem.W.Frag → Bool)) (fn : List DE) : PySem.W.Hook where
  α := AlE
  obs := fun s => obsEG n ex fn s.heap.get?
  val := fun _ => valE fn
  says := fun _ h => ∃ K : PySem.W.Frag, K.In h ∧ SaysE ex fn K
  of := fun _ _ e => ⟨_, He.frG_in, e⟩
  keeps := fun _ _ _ ⟨K, hK, c⟩ k => ⟨K, PySem.W.Frag.In.keeps hK k, c⟩
theorem obsEG_eq {n : Nat} {ex : List (PySem.W.Frag → Bool)} {fn : List DE} {g : Addr → Option Obj} {s : Shared} (h : ∀ a, g a = s.heap.get? a) : obsEG n ex fn g = (hookE n ex fn).obs s := by
  have e : g = s.heap.get? := funext h
  rw [e] <;> rfl
section
variable {ex : List (PySem.W.Frag → Bool)} {fn : List DE} {K : PySem.W.Frag}
theorem SaysE.fact (c : SaysE ex fn K) {f : PySem.W.Frag → Bool} (i : Nat) (h : ex[i]? = some f) : f K = true :=
  List.all_eq_true.mp (He.ba (show ((ex.all fun f => f K) && fn.all fun d => d.ok K) = true from congrArg (fun z : AlE => z.1) c)).1 f (List.mem_of_getElem? h)
theorem SaysE.def_ (c : SaysE ex fn K) {d : DE} (i : Nat) (h : fn[i]? = some d) : ∃ fd, FunD K d.name d.qual (defArgs d.st) (defBody d.st) (defScope d.st) (d.dfl K) d.kwd (d.loc K) fd := by
  have c2 := (He.ba (show ((ex.all fun f => f K) && fn.all fun d => d.ok K) = true from congrArg (fun z : AlE => z.1) c)).2
  have e : fn.map (fun d => d.fn K) = fn.map DE.val := congrArg (fun z : AlE => z.2) c
  have e2 : (fn.map fun d => d.fn K)[i]? = (fn.map DE.val)[i]? := by rw [e]
  rw [List.getElem?_map, List.getElem?_map, h] at e2
  exact DE.funD (Option.some.inj e2) (List.all_eq_true.mp c2 d (List.mem_of_getElem? h))
end
/-! ### facts as Bools -/
def eqB (a b : Option (Option Value)) : Bool := decide (a = b)
def okFa (f : He.Fa) (K : PySem.W.Frag) : Bool := f.ok K
section
variable {K : PySem.W.Frag} {P : Program} {w : World} {mg : Str → Option Value} {base h : Heap}
theorem cls_of {x : Str} (c : okFa (.cls x) K = true) : Cls K (He.ga K x) := by
  obtain ⟨h1, c⟩ := He.ba c
  obtain ⟨h2, c⟩ := He.ba c
  obtain ⟨h3, h4⟩ := He.ba c
  exact ⟨h1, h2, h3, He.eqO_ok h4⟩
theorem noat_of {x f : Str} (c : okFa (.noat x f) K = true) : NoAttr K (He.ga K x) f := He.eqO_ok c
theorem meth_of {x m : Str} (c : okFa (.meth x m) K = true) : Meth K (He.ga K x) m (He.ma K (He.ga K x) m) := by
  obtain ⟨h1, c⟩ := He.ba c
  obtain ⟨h2, h3⟩ := He.ba c
  exact ⟨He.eqO_ok h1, h2, h3⟩
theorem mkr_of {x : Str} (c : okFa (.mkr x) K = true) : Mk K (He.ga K x) (He.ma K (He.ga K x) "__init__") := by
  obtain ⟨h1, c⟩ := He.ba c
  obtain ⟨h2, c⟩ := He.ba c
  obtain ⟨h3, h4⟩ := He.ba c
  exact ⟨h1, He.eqO_ok h2, h3, h4⟩
/-- an own class -/
def klsB (x : Str) (K : PySem.W.Frag) : Bool := okFa (.cls x) K && (PySem.W.selfFirst K (He.ga K x) && (eqB (PySem.W.findIn K (.ref (He.ga K x)) "__class__") (some (some (.builtin "object.__class__"))) && (eqB (PySem.W.specialIn K (.builtin "object.__class__") "__get__") (some (some (.builtin "getset_descriptor.__get__"))) &&
  (decide (PySem.W.takesIn K (.builtin "object.__class__") = some true) && decide (PySem.W.mroIn K (He.ga K x) (.type "object") = some true)))))
theorem kls_of {lv : Nat} {x : Str} (c : klsB x K = true) : Kls ⟨P, w, K, mg, base, lv⟩ (He.ga K x) := by
  obtain ⟨h1, c⟩ := He.ba c
  obtain ⟨h2, c⟩ := He.ba c
  obtain ⟨h3, c⟩ := He.ba c
  obtain ⟨h4, c⟩ := He.ba c
  obtain ⟨h5, h6⟩ := He.ba c
  exact ⟨cls_of h1, h2, of_decide_eq_true h3, of_decide_eq_true h4, of_decide_eq_true h5, of_decide_eq_true h6⟩
/-- a property -/
def propB (x m : Str) (K : PySem.W.Frag) : Bool := eqB (PySem.W.findIn K (.ref (He.ga K x)) m) (some (some (.ref (ppA K x m)))) && (eqB (PySem.W.specialIn K (.ref (ppA K x m)) "__get__") (some (some (.builtin "property.__get__"))) && (decide (PySem.W.takesIn K (.ref (ppA K x m)) = some true) &&
  (match PySem.W.recIn K (ppA K x m) "property" with
    | some (.ref _ :: _) => true
    | _ => false)))
theorem prop_of {x m : Str} (c : propB x m K = true) : PropOf K (He.ga K x) m (ppA K x m) (pgA K x m) := by
  obtain ⟨h1, c⟩ := He.ba c
  obtain ⟨h2, c⟩ := He.ba c
  obtain ⟨h3, h4⟩ := He.ba c
  refine ⟨of_decide_eq_true h1, of_decide_eq_true h2, of_decide_eq_true h3, ?_⟩
  unfold pgA
  split at h4
  · rename_i g rest e
    exact ⟨rest, by rw [e]⟩
  · cases h4
def kitB (t u : PySem.W.Frag → Value) (b : Bool) (K : PySem.W.Frag) : Bool := decide (PySem.W.kitOne K (t K) (u K) = some b)
/-- a class that holds a tree -/
def kfB (x : Str) (K : PySem.W.Frag) : Bool := klsB x K && (okFa (.noat x "form") K && (okFa (.glo x) K && (kitB (fun K => .ref (He.ga K x)) (fun K => .ref (He.ga K x)) true K && (kitB (fun _ => .type "tuple") (fun K => .ref (He.ga K x)) false K && eqB (PySem.W.findIn K (.ref (He.ga K x)) "__ne__") (some (some (.builtin "object.__ne__")))))))
theorem kf_of {lv : Nat} {x : Str} (X : K.In h) (N : h.Ns mainGlobals mg) (c : kfB x K = true) : KF ⟨P, w, K, mg, base, lv⟩ x (He.ga K x) := by
  obtain ⟨h1, c⟩ := He.ba c
  obtain ⟨h2, c⟩ := He.ba c
  obtain ⟨h3, c⟩ := He.ba c
  obtain ⟨h4, c⟩ := He.ba c
  obtain ⟨h5, h6⟩ := He.ba c
  exact ⟨kls_of h1, noat_of h2, He.glo_ok X N h3, of_decide_eq_true h4, of_decide_eq_true h5, of_decide_eq_true h6⟩
def gaV (x : Str) (K : PySem.W.Frag) : Value := .ref (He.ga K x)
def keB (K : PySem.W.Frag) : Bool := kfB "Look" K && (kfB "Test" K && (PySem.W.notFirst K (He.ga K "Look") (gaV "Look" K) && (PySem.W.notFirst K (He.ga K "Look") (gaV "Test" K) && (PySem.W.notFirst K (He.ga K "Test") (gaV "Look" K) && (PySem.W.notFirst K (He.ga K "Test") (gaV "Test" K) && (PySem.W.notFirst K (He.ga K "Test") (.type "tuple") &&
  (kitB (gaV "Look") (gaV "Test") false K && kitB (gaV "Test") (gaV "Look") false K)))))))
theorem ke_of {lv : Nat} (X : K.In h) (N : h.Ns mainGlobals mg) (c : keB K = true) : KE ⟨P, w, K, mg, base, lv⟩ (He.ga K "Look") (He.ga K "Test") := by
  obtain ⟨h1, c⟩ := He.ba c
  obtain ⟨h2, c⟩ := He.ba c
  obtain ⟨h3, c⟩ := He.ba c
  obtain ⟨h4, c⟩ := He.ba c
  obtain ⟨h5, c⟩ := He.ba c
  obtain ⟨h6, c⟩ := He.ba c
  obtain ⟨h7, c⟩ := He.ba c
  obtain ⟨h8, h9⟩ := He.ba c
  exact ⟨kf_of X N h1, kf_of X N h2, h3, h4, h5, h6, h7, of_decide_eq_true h8, of_decide_eq_true h9⟩
def kpwB (x : Str) (K : PySem.W.Frag) : Bool := eqB (PySem.W.findIn K (.ref (He.ga K x)) (dunderR Operator.Pow.info.2)) (some none) && ((PySem.W.findIn K (.type "int") (PySem.dunder Operator.Pow.info.2)).isSome && ((PySem.W.findIn K (.type "int") (dunderR Operator.Pow.info.2)).isSome && decide (PySem.W.subIn K (.type "int") (.ref (He.ga K x)) = some false)))
theorem kpw_of {lv : Nat} {x : Str} (c : kpwB x K = true) : KPw ⟨P, w, K, mg, base, lv⟩ (He.ga K x) := by
  obtain ⟨h1, c⟩ := He.ba c
  obtain ⟨h2, c⟩ := He.ba c
  obtain ⟨h3, h4⟩ := He.ba c
  exact ⟨⟨none, of_decide_eq_true h1, .inl rfl⟩, Option.isSome_iff_exists.mp h2, Option.isSome_iff_exists.mp h3, of_decide_eq_true h4⟩
def kinB (x : Str) (K : PySem.W.Frag) : Bool := match PySem.W.clsIn K (He.ga K x) with
  | some cd => cd.mro.all fun c => eqB (PySem.W.findIn K c (dunderI Operator.RShift.info.2)) (some none)
  | none => false
theorem kin_of {lv : Nat} {x : Str} (c : kinB x K = true) : KIn ⟨P, w, K, mg, base, lv⟩ (He.ga K x) := by
  unfold kinB at c
  split at c
  · rename_i cd e
    exact ⟨cd, e, fun v hv => of_decide_eq_true (List.all_eq_true.mp c v hv)⟩
  · cases c
/-! ### defs -/
theorem dfn_of {lv : Nat} {x : Str} {st : Stmt} {ps : List Str} {fd : FuncData} (X : K.In h) (N : h.Ns mainGlobals mg) (g : okFa (.glo x) K = true) (F : FunD K x x (defArgs st) (defBody st) (defScope st) [] [] (He.ga K x) fd) (b : Binds K fd ps []) : Dfn ⟨P, w, K, mg, base, lv⟩ x st ps :=
  ⟨_, fd, fun_of F, He.glo_ok X N g, b⟩
theorem dfm_of {lv : Nat} {x m q : Str} {st : Stmt} {ps : List Str} {fd : FuncData} (c : okFa (.cls x) K = true) (m' : okFa (.meth x m) K = true) (F : FunD K m q (defArgs st) (defBody st) (defScope st) [] [] (He.ma K (He.ga K x) m) fd) (b : Binds K fd ps []) : DfM ⟨P, w, K, mg, base, lv⟩ (He.ga K x) m q st ps :=
  ⟨_, fd, fun_of F, cls_of c, meth_of m', b⟩
theorem dfp_of {lv : Nat} {x m q : Str} {st : Stmt} {ps : List Str} {fd : FuncData} (c : okFa (.cls x) K = true) (p : propB x m K = true) (F : FunD K m q (defArgs st) (defBody st) (defScope st) [] [] (pgA K x m) fd) (b : Binds K fd ps []) : DfP ⟨P, w, K, mg, base, lv⟩ (He.ga K x) m q st ps :=
  ⟨_, _, fd, fun_of F, cls_of c, prop_of p, b⟩
end
/-- the law's own def -/
theorem fun_top {Γ : Gm} {x : Str} {st : Stmt} {ps N : List Str} {k : Nat} {sp : Sp} {f : Addr} {fd : FuncData} (F : L2.Fun Γ.K x x st f fd) (S : FnScope N ps (defScope st)) (len : ∀ vs H Q E, sp vs H Q E → vs.length = ps.length)
    (hbody : ∀ (f : Addr) (cdv : Value) (A : Around) (outer : List Env) (s : Shared) (H : Hp) (vs : List V) (Q : VK) (E : XK), Good (Γ.at k) (cxOf CX0 Γ.P Γ.w Γ.K Γ.mg Γ.base N x (defScope st) f cdv A outer s H E).nox → sp vs H Q E →
      ∃ t, PSs (cxOf CX0 Γ.P Γ.w Γ.K Γ.mg Γ.base N x (defScope st) f cdv A outer s H E).nox (defBody st) t ∧ t { nx := fun _ H' => Q .non H', rt := Q } (L2.start N vs) H) : FnOk Γ.P Γ.w Γ.K Γ.mg Γ.base CX0 (k + 1) f fd ps sp :=
  F.ok S len fun cdv A outer s H vs Q E hr h => hbody f cdv A outer s H vs Q E (Good.of hr).nox h
end G
/-! what the top leaves of the class of tables -/
namespace G
open PySem PySem.Spec PyProof.Rows L2
/-- the i-th default of the def at f, if it is an object -/
def dfA (f : Addr) (i : Nat) (K : PySem.W.Frag) : Addr := match K.lookup f with
  | some ⟨_, _, .func fd, _⟩ => (match fd.defaults with
    | .ref T => (match K.lookup T with
      | some ⟨_, _, .seq its _, _⟩ => (match its.toList[i]? with
        | some (.ref a) => a
        | _ => 0)
      | _ => 0)
    | _ => 0)
  | _ => 0
/-- an empty tuple stands there -/
def emTB (f : PySem.W.Frag → Addr) (K : PySem.W.Frag) : Bool := match K.lookup (f K) with
  | some ⟨.type c, _, .seq its _, _⟩ => decide (c = "tuple") && decide (its.toList = [])
  | _ => false
theorem emT_of {f : PySem.W.Frag → Addr} {K : PySem.W.Frag} (h : emTB f K = true) (H : Hp) : SqT K H (f K) [] := by
  unfold emTB at h
  cases q : K.lookup (f K) with
  | none =>
    rw [q] at h
    cases h
  | some o =>
    obtain ⟨oc, od, dt, osl⟩ := o
    rw [q] at h
    cases oc with
    | type c =>
      cases dt with
      | seq its n =>
        obtain ⟨h1, h2⟩ := He.ba (show (decide (c = "tuple") && decide (its.toList = [])) = true from h)
        have e : its.toList = [] := of_decide_eq_true h2
        refine .inr ⟨_, its, n, q, congrArg Value.type (of_decide_eq_true h1), rfl, ?_, ?_⟩
        · rw [← Array.length_toList, e]; exact Nat.zero_le _
        · rw [e]; exact .nil
      | _ => cases h
    | _ => cases dt <;> cases h
def ktB (K : PySem.W.Frag) : Bool := klsB "Table" K && (okFa (.glo "Table") K && (okFa (.noat "Table" "sorts") K && (okFa (.noat "Table" "nexts") K && (okFa (.noat "Table" "befores") K && (okFa (.noat "Table" "facts") K && (okFa (.noat "Table" "numbers") K && (PySem.W.noSeq K (He.ga K "Table") && (okFa (.meth "Table" "__getitem__") K && PySem.W.fnIn K (He.ma K (He.ga K "Table") "__getitem__")))))))))
theorem kt_of {P : Program} {w : World} {K : PySem.W.Frag} {mg : Str → Option Value} {base h : Heap} {lv : Nat} (X : K.In h) (N : h.Ns mainGlobals mg) (c : ktB K = true) : KT ⟨P, w, K, mg, base, lv⟩ (He.ga K "Table") := by
  obtain ⟨h1, c⟩ := He.ba c
  obtain ⟨h2, c⟩ := He.ba c
  obtain ⟨h3, c⟩ := He.ba c
  obtain ⟨h4, c⟩ := He.ba c
  obtain ⟨h5, c⟩ := He.ba c
  obtain ⟨h6, c⟩ := He.ba c
  obtain ⟨h7, c⟩ := He.ba c
  obtain ⟨h8, c⟩ := He.ba c
  obtain ⟨h9, h10⟩ := He.ba c
  refine ⟨kls_of h1, He.glo_ok X N h2, noat_of h3, noat_of h4, noat_of h5, noat_of h6, noat_of h7, h8, fun f hf => ?_⟩
  have e1 := (meth_of h9).at_
  have e2 := hf.at_
  rw [e1] at e2
  cases e2
  exact h10
end G
/-! facts by Bools: methods taken off, instances that may be called -/
namespace G
open PySem PySem.Spec PyProof.Rows L2 StX
def bmB (x m : Str) (K : PySem.W.Frag) : Bool := okFa (.meth x m) K && (eqB (PySem.W.specialIn K (.ref (He.ma K (He.ga K x) m)) "__get__") (some (some (.builtin "function.__get__"))) && (decide (PySem.W.takesIn K (.ref (He.ma K (He.ga K x) m)) = some false) && (!(PySem.W.copiedNames.contains m) && PySem.W.fnIn K (He.ma K (He.ga K x) m))))
theorem bm_of {x m : Str} {K : PySem.W.Frag} (c : bmB x m K = true) : BMeth K (He.ga K x) m (He.ma K (He.ga K x) m) := by
  obtain ⟨h1, c⟩ := He.ba c
  obtain ⟨h2, c⟩ := He.ba c
  obtain ⟨h3, c⟩ := He.ba c
  obtain ⟨h4, h5⟩ := He.ba c
  exact ⟨meth_of h1, He.eqO_ok h2, of_decide_eq_true h3, by simpa using h4, h5⟩
def calB (x : Str) (K : PySem.W.Frag) : Bool := okFa (.meth x "__call__") K && PySem.W.fnIn K (He.ma K (He.ga K x) "__call__")
theorem cal_of {x : Str} {K : PySem.W.Frag} (c : calB x K = true) : CallC K (He.ga K x) := by
  obtain ⟨h1, h2⟩ := He.ba c
  intro f hf
  have e1 := (meth_of h1).at_
  have e2 := hf.at_
  rw [e1] at e2
  cases e2
  exact h2
/-- the written part: all objects below n (He.asD grows by eraseDups, which is dear) -/
def obsRG (n : Nat) (ex : List (PySem.W.Frag → Bool)) (fn : List DE) (g : Addr → Option Obj) : AlE := obsE ex fn (He.frG g (List.range n))
def hookR (n : Nat) (ex : List (PySem.W.Frag → Bool)) (fn : List DE) : PySem.W.Hook where
  α := AlE
  obs := fun s => obsRG n ex fn s.heap.get?
  val := fun _ => valE fn
  says := fun _ h => ∃ K : PySem.W.Frag, K.In h ∧ SaysE ex fn K
  of := fun _ _ e => ⟨_, He.frG_in, e⟩
  keeps := fun _ _ _ ⟨K, hK, c⟩ k => ⟨K, PySem.W.Frag.In.keeps hK k, c⟩
theorem obsRG_eq {n : Nat} {ex : List (PySem.W.Frag → Bool)} {fn : List DE} {g : Addr → Option Obj} {s : Shared} (h : ∀ a, g a = s.heap.get? a) : obsRG n ex fn g = (hookR n ex fn).obs s := by
  have e : g = s.heap.get? := funext h
  rw [e] <;> rfl
end G
/-! errors of the text's own classes: made, raised, let out of defs, caught -/
namespace G
open PySem PySem.Spec PyProof.Rows L2 StX
/-- what stands behind a def that let an error out -/
abbrev CXN (Γ : Gm) : CXT := L2N.CX Γ.P Γ.w
theorem takes_no {X : Cx} : L2N.Takes X (fun _ _ _ _ => False) := fun u s' ⟨_, _, _, _, _, _, _, _, _, _, _, _, _, _, _, _, w⟩ => w.elim
theorem Good.tr {Γ : Gm} {X : Cx} (g : Good Γ X) {pn : List (Addr × Obj)} {xe : Value → Shared → Prop} : Good Γ (X.tr pn xe) := ⟨g.P, g.w, g.K, g.mg, g.base, g.calm, g.room⟩
/-- a def's context where errors may leave -/
abbrev cxN (Γ : Gm) (N : List Str) (qual : Str) (sc : Scope) (f : Addr) (cdv : Value) (A : Around) (outer : List Env) (s : Shared) (H : Hp) (E : XK) : Cx := cxOf (CXN Γ) Γ.P Γ.w Γ.K Γ.mg Γ.base N qual sc f cdv A outer s H E
/-- what is shown of a body that may let errors out -/
def BodyN (Γ : Gm) (k : Nat) (N : List Str) (qual : Str) (st : Stmt) (sp : Sp) : Prop := ∀ (f : Addr) (cdv : Value) (A : Around) (outer : List Env) (s : Shared) (H : Hp) (vs : List V) (Q : VK) (E : XK),
  Good (Γ.at k) (cxN Γ N qual (defScope st) f cdv A outer s H E) → L2N.Takes (cxN Γ N qual (defScope st) f cdv A outer s H E) (fun c d _ H' => E c d H') → PassesOwn (model Γ.P Γ.w) (cxN Γ N qual (defScope st) f cdv A outer s H E).A (cxN Γ N qual (defScope st) f cdv A outer s H E).env (cxN Γ N qual (defScope st) f cdv A outer s H E).xe → sp vs H Q E →
  ∃ t, PSs (cxN Γ N qual (defScope st) f cdv A outer s H E) (defBody st) t ∧ t { nx := fun _ H' => Q .non H', rt := Q } (L2.start N vs) H
section
variable {Γ : Gm} {x m qual : Str} {C : Addr} {st : Stmt} {ps N : List Str} {k : Nat} {sp : Sp}
theorem fun_okN {f : Addr} {fd : FuncData} (F : L2.Fun Γ.K x qual st f fd) (S : FnScope N ps (defScope st)) (len : ∀ vs H Q E, sp vs H Q E → vs.length = ps.length) (hb : BodyN Γ k N qual st sp) : FnOk Γ.P Γ.w Γ.K Γ.mg Γ.base (CXN Γ) (k + 1) f fd ps sp := by
  obtain ⟨oc, od, kV, doc, pm, an, cdv, ct, osl, rfl, lk, hcd⟩ := F.ex
  exact fn_of lk hcd S len fun A outer s H vs Q E hr h => hb f cdv A outer s H vs Q E (Good.of hr) (L2N.takes_of rfl rfl rfl rfl) (passes_of rfl) h
theorem Dfn.clN (d : Dfn Γ x st ps) (S : FnScope N ps (defScope st)) (len : ∀ vs H Q E, sp vs H Q E → vs.length = ps.length) (hb : BodyN Γ k N x st sp) : Cl Γ (CXN Γ) (k + 1) x sp [] := by
  obtain ⟨f, fd, F, m, b⟩ := d.ex
  exact ⟨f, fd, ps, [], fun_okN F S len hb, m, F.kp, b, .nil⟩
theorem DfM.mtN (d : DfM Γ C m qual st ps) (S : FnScope N ps (defScope st)) (len : ∀ vs H Q E, sp vs H Q E → vs.length = ps.length) (hb : BodyN Γ k N qual st sp) : Mt Γ (CXN Γ) (k + 1) C m sp [] := by
  obtain ⟨f, fd, F, c, h, b⟩ := d.ex
  exact ⟨f, fd, ps, [], fun_okN F S len hb, c, h, b, .nil⟩
end
/-! ### calls of what may raise; W: what is wished of an error here -/
section
variable {Γ : Gm} {X : Cx} {W : L2.WX} {x m : Str} {o e fe : Expr} {es : List Expr} {ta tf : TE} {t : TA} {pos p apos : Pos} {k l : Nat} {sp : Sp} {dvs : List V}
theorem passN (tk : L2N.Takes X W) (σ : L2.St) : PassesAt (L2N.CX X.prog X.w) X σ (fun c d H' => W c d σ H') := fun pins H s e s' I c => tk e s' (L2N.XE.of_call I (fun cls d H' h => h) c)
def tMwX (Γ : Gm) (W : L2.WX) (m : Str) (ta : TE) (t : TA) : TE := fun σ H Q => ta σ H fun x H1 => ∃ (n : Nat) (C a dx : Addr) (fs : List (Str × V)) (sp : Sp) (dvs : List V), Mt Γ (CXN Γ) n C m sp dvs ∧ n ≤ Γ.lv ∧ x = .ref a ∧ H1 a = some (.ins C dx fs) ∧ fs.lookup m = none ∧
  t σ H1 fun vs H2 => sp (x :: (vs ++ dvs)) H2 Q fun c d H' => W c d σ H'
theorem pe_mwX {pl : Sem Bool} (g : Good Γ X) (tk : L2N.Takes X W) (ho : PE X o ta) (ha : PA X (e :: es) t)
    (hst : starEach (e :: es) X.env = (false, eval e X.env) :: starEach es X.env := by rfl) (hpl : (backTo pos (starEach es X.env)).any (·.1) = false := by rfl)
    (ht : eval (.Call (.Attribute o m apos) (e :: es) [] pos) X.env = (do
      let ov ← eval o X.env
      standAt apos.atName
      let (f, first) ← holding [ov] (getMethod ov m pl)
      callWith pos f first (backTo pos (starEach (e :: es) X.env)) (backToKw pos (keywordEach [] X.env))) := by rfl) :
    PE X (.Call (.Attribute o m apos) (e :: es) [] pos) (tMwX Γ W m ta t) := by
  refine ⟨fun pins s σ H Q I h => ?_⟩
  refine PySem.W.methodCall_KW (pl := pl) (thn (ho.run pins s σ H _ I h) fun u s1 ⟨x, H1, I1, rx, n, C, a, dx, fs, sp, dvs, M, hn, ex, ea, l, q⟩ => ?_) ht
  subst ex
  obtain rfl : u = Value.ref a := rx
  obtain ⟨P, w, K, mg, base, lv⟩ := Γ
  obtain ⟨h1, h2, h3, h4, h5, _, hr⟩ := g
  simp only at h1 h2 h3 h4 h5 hr
  subst h1 h2 h3 h4 h5
  obtain ⟨f, fd, ps, ds, F, c, hm, hb, hd⟩ := M.ex
  refine getmeth_ok I1 ea c hm l ?_
  refine PySem.W.callWith_K (first := [.ref a]) (h₀ := X.base) I.ok.mod.kin hm.kp (thn (ha.run pos pins s1 σ H1 _ I1 q) fun us s2 ⟨vs, H2, I2, r, q2⟩ => ⟨I2.kIn, ?_⟩) hst hpl
  exact run_fnSD (E := fun σ c d H' => W c d σ H') (us := .ref a :: us) (vs := .ref a :: vs) F (hr.mono hn) hb hd (passN tk σ) I2 (.cons rfl r) q2
/-- f(e, ..), f an instance -/
def tCallIX (Γ : Gm) (W : L2.WX) (tf : TE) (t : TA) : TE := fun σ H Q => tf σ H fun y H1 => ∃ (n : Nat) (C a : Addr) (sp : Sp), Mt Γ (CXN Γ) n C "__call__" sp [] ∧ CallC Γ.K C ∧ n ≤ Γ.lv ∧ y = .ref a ∧ t σ H1 fun vs H2 => (∃ dx fs, H2 a = some (.ins C dx fs)) ∧ sp (.ref a :: vs) H2 Q fun c d H' => W c d σ H'
theorem codeFnX {pins : List (Addr × Obj)} {σ : L2.St} {H : Hp} {s : Shared} {f : Addr} {fd : FuncData} {ps : List Str} {E : L2.St → XK} {Q : VK} {us ds : List Value} {vs : List V} (F : FnOk X.prog X.w X.K X.mg X.base (L2N.CX X.prog X.w) k f fd ps sp) (hr : Room k X.A) (hb : Binds X.K fd ps ds) (hd : Vals dvs ds)
    (hx : PassesAt (L2N.CX X.prog X.w) X σ (E σ)) (I : Inv X pins σ H s) (r : Vals vs us) (h : sp (vs ++ dvs) H Q (E σ)) :
    codeAny (model X.prog X.w) X.A (.call (.ref f) ⟨us, []⟩) (fun r s' => match r with | .ok (.ret v) => EP X pins σ Q v s' | .ok _ => False | .error e => X.xe e s') s := by
  have r2 : Vals (vs ++ dvs) (us ++ ds) := r.append hd
  have hl : (us ++ ds).length = ps.length := by rw [← r2.length]; exact F.len _ _ _ _ h
  refine codeAny_mono (F.run X.A X.stack s H ⟨us, []⟩ (us ++ ds) (vs ++ dvs) Q (E σ) hr I.env0 (hb s us I.kIn hl) r2 h) fun r s' hq => ?_
  cases r with
  | error e => exact hx pins H s e s' I hq
  | ok fl =>
    cases fl with
    | ret u => exact I.after hq
    | next => exact False.elim hq
    | brk => exact False.elim hq
    | cont => exact False.elim hq
theorem pe_callIX (g : Good Γ X) (tk : L2N.Takes X W) (hf : PE X fe tf) (ha : PA X (e :: es) t)
    (ht : eval (.Call fe (e :: es) [] pos) X.env = (do callWith pos (← eval fe X.env) [] (backTo pos (starEach (e :: es) X.env)) (backToKw pos (keywordEach [] X.env))) := by rfl)
    (he : starEach (e :: es) X.env = (false, eval e X.env) :: starEach es X.env := by rfl) (hpl : (backTo pos (starEach es X.env)).any (·.1) = false := by rfl) : PE X (.Call fe (e :: es) [] pos) (tCallIX Γ W tf t) := by
  refine ⟨fun pins s σ H Q I h => ?_⟩
  refine Call_ (thn (hf.run pins s σ H _ I h) fun u s1 ⟨y, H1, I1, ry, n, C, a, sp, M, cc, hn, ey, q⟩ => ?_) ht
  subst ey
  obtain rfl : u = Value.ref a := ry
  obtain ⟨P, w, K, mg, base, lv⟩ := Γ
  obtain ⟨h1, h2, h3, h4, h5, _, hr⟩ := g
  simp only at h1 h2 h3 h4 h5 hr
  subst h1 h2 h3 h4 h5
  obtain ⟨f, fd, ps, ds, F, c, hm, hbi, hd⟩ := M.ex
  refine callO_with (thn (ha.run pos pins s1 σ H1 _ I1 q) fun us s2 ⟨vs, H2, I2, r, ⟨dx, fs, hi⟩, q2⟩ => ?_) he hpl
  obtain ⟨ox, od, J, hp⟩ := insC_at (X := X) I2 (.inr ⟨dx, fs, hi⟩)
  exact ⟨⟨C, ox, od, J, hp⟩, wpAny_call (PySem.W.kco_code I2.kIn J hp hm.at_ hm.fn (cc f hm) (codeFnX (E := fun σ c d H' => W c d σ H') (us := .ref a :: us) (vs := .ref a :: vs) F (hr.mono hn) hbi hd (passN tk σ) I2 (.cons rfl r) (show sp ((V.ref a :: vs) ++ []) H2 Q _ from by rw [List.append_nil]; exact q2)))⟩
/-- a def of the module -/
def tCallX (sp : Sp) (dvs : List V) (W : L2.WX) (t : TA) : TE := fun σ H Q => t σ H fun vs H1 => sp (vs ++ dvs) H1 Q fun c d H' => W c d σ H'
theorem pclX (c : Cl Γ (CXN Γ) k x sp dvs) (g : Good (Γ.at l) X) (tk : L2N.Takes X W) (hk : k ≤ l) (hg : gvB X.env.scope x = true) (ha : PA X (e :: es) t)
    (he : starEach (e :: es) X.env = (false, eval e X.env) :: starEach es X.env := by rfl) (hpl : (backTo pos (starEach es X.env)).any (·.1) = false := by rfl) :
    PE X (.Call (.Name x p) (e :: es) [] pos) (tCallX sp dvs W t) := by
  obtain ⟨P, w, K, mg, base, lv⟩ := Γ
  obtain ⟨f, fd, ps, ds, F, m, kp, b, d⟩ := c.ex
  obtain ⟨h1, h2, h3, h4, h5, _, hr⟩ := g
  simp only at h1 h2 h3 h4 h5 hr
  subst h1 h2 h3 h4 h5
  exact pe_callSD (E := fun σ c d H' => W c d σ H') (F.mono hk) hr (gv_of hg).1 m kp b d (fun σ => passN tk σ) ha (gv_of hg).2.1 he hpl
end
/-! ### classes of errors -/
/-- the values that __init__ keeps (n of them are given) -/
def fsD (ns : List Str) : List V → List (Str × V) := fun vs => (ns.zip vs).reverse
def spErr (C : Addr) (n : Nat) (fs : List V → List (Str × V)) : Sp := fun vs H Q _ => ∃ (a : Addr) (ws : List V), vs = .ref a :: ws ∧ ws.length = n ∧ H a = some (exo a C none) ∧ ∀ dx, H dx = none → dx ≠ a → Q .non (L2.upd (L2.upd H dx (exd dx (fs ws))) a (exo a C (some dx)))
/-- a class of errors, its name, its own __init__ -/
structure ErrK (Γ : Gm) (k : Nat) (x : Str) (C : Addr) (n : Nat) (fs : List V → List (Str × V)) (ns : List Str) : Prop where
  oex : OexC Γ.K C
  no : ∀ f ∈ ns, PySem.W.findIn Γ.K (.ref C) f = some none
  xf : XfC Γ.K C
  mg : Γ.mg x = some (.ref C)
  small : n ≤ 1000
  ini : ∃ (f : Addr) (fd : FuncData) (ps : List Str), FnOk Γ.P Γ.w Γ.K Γ.mg Γ.base CX0 k f fd ps (spErr C n fs) ∧ PySem.W.findIn Γ.K (.ref C) "__init__" = some (some (.ref f)) ∧ PySem.W.typeIn Γ.K (.ref f) = some (.type "function") ∧ Binds Γ.K fd ps []
def tErr (C : Addr) (n : Nat) (fs : List V → List (Str × V)) (ta : TA) : L2.St → Hp → XK → Prop := fun σ H Q => ta σ H fun vs H1 => vs.length = n ∧ ∀ d, H1 d = none → Q (.ref C) (some d) (L2.upd H1 d (.xd (fs vs)))
theorem del_back {H1 : Hp} {a dx : Addr} {u u1 u2 : HO} (ha : H1 a = none) (hd : dx ≠ a) : L2.upd (L2.del (L2.upd (L2.upd (L2.upd H1 a u) dx u1) a u2) a) dx (.xd []) = L2.upd H1 dx (.xd []) := by
  funext b
  by_cases h1 : b = dx
  · subst h1; rw [upd_same, upd_same]
  · rw [upd_ne h1, upd_ne h1]
    by_cases h2 : b = a
    · subst h2; rw [del_same, ha]
    · rw [del_ne h2, upd_ne h2, upd_ne h1, upd_ne h2]
theorem upd_over {H : Hp} {a : Addr} {u v : HO} : L2.upd (L2.upd H a u) a v = L2.upd H a v := by
  funext b
  by_cases h : b = a
  · subst h; rw [upd_same, upd_same]
  · rw [upd_ne h, upd_ne h, upd_ne h]
theorem upd_upd {H : Hp} {a b : Addr} {u v : HO} (h : a ≠ b) : L2.upd (L2.upd H a u) b v = L2.upd (L2.upd H b v) a u := by
  funext c
  by_cases h1 : c = b
  · subst h1; rw [upd_same, upd_ne (Ne.symm h), upd_same]
  · by_cases h2 : c = a
    · subst h2; rw [upd_ne h1, upd_same, upd_same]
    · rw [upd_ne h1, upd_ne h2, upd_ne h2, upd_ne h1]
section
variable {Γ : Gm} {X : Cx} {W : L2.WX} {x : Str} {C : Addr} {k l n : Nat} {fs : List V → List (Str × V)} {ns : List Str} {e : Expr} {es : List Expr} {ta : TA} {p pos : Pos}
theorem err_make {pins : List (Addr × Obj)} {σ : L2.St} {H1 : Hp} {s1 : Shared} {Q : XK} {us : List Value} {vs : List V} (T : ErrK Γ k x C n fs ns) (g : Good (Γ.at l) X) (hk : k + 1 ≤ l) (I1 : Inv X pins σ H1 s1) (r1 : Vals vs us) (hl : vs.length = n) (q : ∀ d, H1 d = none → Q (.ref C) (some d) (L2.upd H1 d (.xd (fs vs)))) :
    wpAny (model X.prog X.w) X.A (call (.ref C) us) (L2N.MkP X pins σ Q) X.xe s1 := by
  obtain ⟨P, w, K, mg, base, lv⟩ := Γ
  obtain ⟨h1, h2, h3, h4, h5, _, hr⟩ := g
  simp only at h1 h2 h3 h4 h5 hr
  subst h1 h2 h3 h4 h5
  obtain ⟨fI, fd, ps, F1, iC, tI, hb⟩ := T.ini
  have T0 := T.oex
  obtain ⟨nm, qn, N, bs, bm, sn, sub, ab, col, dd, k0, k1, k2, k3, k5, hC, hbm⟩ := T0.cls
  obtain ⟨hp, gs, dr, tk, os⟩ := s1
  obtain ⟨a, ea⟩ : ∃ a : Addr, a = hp.objs.size + 1 := ⟨_, rfl⟩
  have hsz : hp.objs.size ≤ a := by rw [ea]; exact Nat.le_succ _
  have hn : H1 a = none := I1.hok.fresh hsz
  have kk : ∀ b o, hp.get? b = some o → ((hp.push (PySem.W.kdv_tup us)).push (PySem.HandSPX.excO C hp.objs.size)).get? b = some o := fun b o e => Heap.get?_push_of_some _ (Heap.get?_push_of_some _ e)
  have hget : ((hp.push (PySem.W.kdv_tup us)).push (PySem.HandSPX.excO C hp.objs.size)).get? a = some (PySem.HandSPX.excO C hp.objs.size) := by rw [ea]; heap_get
  have I2 : Inv X pins σ (L2.upd H1 a (exo a C none)) ⟨(hp.push (PySem.W.kdv_tup us)).push (PySem.HandSPX.excO C hp.objs.size), gs, dr, tk, os⟩ := I1.laid (t' := tk) (a := a) (o := exo a C none) (h' := (hp.push (PySem.W.kdv_tup us)).push (PySem.HandSPX.excO C hp.objs.size)) kk hsz (exo_ok hget)
  have r2 : Vals (V.ref a :: vs) (Value.ref a :: us) := .cons rfl r1
  -- what is wished behind __init__
  let Q2 : VK := fun v H2 => v = .non ∧ ∃ d, H1 d = none ∧ d ≠ a ∧ H2 = L2.upd (L2.upd (L2.upd H1 a (exo a C none)) d (exd d (fs vs))) a (exo a C (some d))
  have hq : spErr C n fs (V.ref a :: vs) (L2.upd H1 a (exo a C none)) Q2 E0 := ⟨a, vs, rfl, hl, upd_same, fun dx hdx nda => ⟨rfl, dx, by rwa [upd_ne nda] at hdx, nda, rfl⟩⟩
  have hlen : (Value.ref a :: us).length = ps.length := by rw [← r2.length]; exact F1.len _ _ _ _ hq
  have hus : us.length ≤ sizeLine := by
    rw [← Paired.length r1, hl]
    exact Nat.le_trans T.small (by decide)
  have bnd : BindsTo ⟨(hp.push (PySem.W.kdv_tup us)).push (PySem.HandSPX.excO C hp.objs.size), gs, dr, tk, os⟩ fd ⟨Value.ref a :: us, []⟩ (ps.zip (Value.ref a :: us)) := by
    have z := hb ⟨(hp.push (PySem.W.kdv_tup us)).push (PySem.HandSPX.excO C hp.objs.size), gs, dr, tk, os⟩ (Value.ref a :: us) I2.kIn (by rw [List.append_nil]; exact hlen)
    rwa [List.append_nil] at z
  have run := F1.run _ X.stack ⟨(hp.push (PySem.W.kdv_tup us)).push (PySem.HandSPX.excO C hp.objs.size), gs, dr, tk, os⟩ (L2.upd H1 a (exo a C none)) ⟨Value.ref a :: us, []⟩ (Value.ref a :: us) (V.ref a :: vs) Q2 E0 ((hr.mono hk).make C us []) (I2.env0.make C us []) bnd r2 hq
  refine wpAny_call (PySem.HandSPX.call_own F.excBase_ValueError (fun Y => PySem.HandSPX.refsVE_contains Y bm hbm) (I1.kIn _ _ hC) (PySem.W.looks_findIn I1.kIn iC) (fun self => PySem.W.bind_fn I1.kIn self tI) hus (codeAny_mono (by rw [← ea]; exact run) fun r s' hq' => ?_))
  cases r with
  | error er => exact hq'.elim
  | ok fl =>
    cases fl with
    | ret u =>
      obtain ⟨v, H2, os2, bare2, un2, hok2, rv, ev, d, hd1, nda, eH⟩ := hq'
      subst ev
      obtain ⟨h2, g2, d2, t2, os'⟩ := s'
      have ea2 : H2 a = some (exo a C (some d)) := by rw [eH, upd_same]
      have ed2 : H2 d = some (exd d (fs vs)) := by rw [eH, upd_ne nda, upd_same]
      obtain ⟨t0, G, J, kG, ge, hoe, na⟩ := mk_end0 (d2 := d2) (t2 := t2) I1 hsz kk un2 hok2 os2 bare2 ea2 ed2 hd1
      have eF : L2.upd (L2.del H2 a) d (.xd (fs vs)) = L2.upd H1 d (.xd (fs vs)) := by
        funext b
        by_cases h1 : b = d
        · subst h1; rw [upd_same, upd_same]
        · rw [upd_ne h1, upd_ne h1]
          by_cases h2 : b = a
          · subst h2; rw [del_same, hn]
          · rw [del_ne h2, eH, upd_ne h2, upd_ne h1, upd_ne h2]
      rw [eF] at J na
      rw [ea] at *
      exact ⟨rv, ⟨_, _, _, ⟨G, g2, d2, t2, os'⟩, _, .ref C, some d, rfl, J, kG, ge, hoe, ⟨rfl, rfl, fun vs e => by cases e; rfl⟩, rfl, rfl, na, rfl, bare2, raises_own T0.exC T0.tyC, q d hd1⟩⟩
    | next => exact False.elim hq'
    | brk => exact False.elim hq'
    | cont => exact False.elim hq'
theorem pmkN (T : ErrK Γ k x C n fs ns) (g : Good (Γ.at l) X) (hk : k + 1 ≤ l) (hg : gvB X.env.scope x = true) (ha : PA X (e :: es) ta)
    (he : starEach (e :: es) X.env = (false, eval e X.env) :: starEach es X.env := by rfl) (hpl : (backTo pos (starEach es X.env)).any (·.1) = false := by rfl) : L2N.PMk X (.Call (.Name x p) (e :: es) [] pos) (tErr C n fs ta) := by
  intro pins s σ H Q I h
  have hm : X.mg x = some (.ref C) := by rw [g.mg]; exact T.mg
  have kC : PySem.W.keepIn X.K (.ref C) = true := by rw [g.K]; exact T.oex.kC
  refine wpAny_Call_Name_kw (ld_glob I (gv_of hg).1 hm ?_ (gv_of hg).2.1)
  refine PySem.W.callWith_K (h₀ := X.base) I.ok.mod.kin kC (thn (ha.run pos pins s σ H _ I h) fun us s1 ⟨vs, H1, I1, r1, hl, q1⟩ => ⟨I1.kIn, ?_⟩) he hpl
  exact err_make T g hk I1 r1 hl q1
theorem pmkN0 (T : ErrK Γ k x C n fs ns) (g : Good (Γ.at l) X) (hk : k + 1 ≤ l) (hg : gvB X.env.scope x = true) : L2N.PMk X (.Call (.Name x p) [] [] pos) (tErr C n fs tNil) := by
  intro pins s σ H Q I h
  have hm : X.mg x = some (.ref C) := by rw [g.mg]; exact T.mg
  have kC : PySem.W.keepIn X.K (.ref C) = true := by rw [g.K]; exact T.oex.kC
  refine wpAny_Call_Name_kw (ld_glob I (gv_of hg).1 hm ?_ (gv_of hg).2.1)
  exact PySem.W.callWith_K0 I.kIn kC (err_make T g hk I .nil h.1 h.2)
/-- raise X(..) -/
def tRz (t : L2.St → Hp → XK → Prop) (W : L2.WX) : TS := fun _ σ H => t σ H fun cls d H' => W cls d σ H'
theorem ps_rz {er : Expr} {t : L2.St → Hp → XK → Prop} (g : Good Γ X) (tk : L2N.Takes X W) (he : L2N.PMk X er t) : PS X (.Raise (some er) none pos) (tRz t W) := L2N.ps_raise g.calm tk he
end
/-! ### caught -/
def llB (N : List Str) (sc : Scope) (i : Nat) (x : Str) : Bool := decide (N[i]? = some x) && (sc.names.lookup x == some .local)
theorem names_of {Γ : Gm} {X : Cx} {x : Str} {C : Addr} (g : Good Γ X) (hm : Γ.mg x = some (.ref C)) (hg : gvB X.env.scope x = true) : Names X x (.ref C) := ⟨(gv_of hg).1, (gv_of hg).2.1, .inl (by rw [g.mg]; exact hm)⟩
section
variable {Γ : Gm} {X : Cx} {W : L2.WX} {x n f : Str} {C a : Addr} {k m i : Nat} {fs : List V → List (Str × V)} {ns : List Str} {body suite : List Stmt} {b0 : Stmt} {np p1 p2 pos : Pos} {tb : L2.WX → TS} {ts : Addr → Value → Option Addr → TS} {Wout : L2.WX}
def tTryA (K : PySem.W.Frag) (c : Value) (i : Nat) (ts : Addr → Value → Option Addr → TS) (Wout : L2.WX) (tb : L2.WX → TS) : TS := fun D σ H => tb (wAs K c i ts Wout D) D σ H
theorem ps_tryA (g : Good Γ X) (hs : X.stack = X.env :: X.outer) (hf : X.env.frame = some X.env.locals) (nd : X.N.Nodup) (hl : llB X.N X.env.scope i n = true) (hm : Γ.mg x = some (.ref C)) (hg : gvB X.env.scope x = true) (tk : L2N.Takes X Wout)
    (hb : ∀ (W : L2.WX) (pn : List (Addr × Obj)) (xe : Value → Shared → Prop), L2N.Takes (X.tr pn xe) W → PassesOwn (model X.prog X.w) X.A X.env xe → PSs (X.tr pn xe) body (tb W))
    (hsu : ∀ (a : Addr) (oe : Obj) (cls : Value) (d : Option Addr) (pn : List (Addr × Obj)), L2N.Zn cls d oe → (∃ vs, oe.data = .fields vs) → PSs (X.suite a ((a, oe) :: pn)) (b0 :: suite) (ts a cls d)) :
    PS X (.Try body [.ExceptHandler (some (.Name x np)) (some n) (b0 :: suite) p1] [] [] pos) (tTryA Γ.K (.ref C) i ts Wout tb) := by
  unfold llB at hl
  simp only [Bool.and_eq_true, decide_eq_true_eq, beq_iff_eq] at hl
  rw [← g.K]
  exact L2N.ps_try_as hs hf nd hl.1 hl.2 (names_of g hm hg) tk hb hsu
/-- what the class of the error has been asked for -/
theorem wAs_yes {K : PySem.W.Frag} {c cls : Value} {D : Ends} {d : Option Addr} {σ : L2.St} {H : Hp} (e : PySem.W.exmOne K cls c = some true) (h : ∀ a, H a = none → ts a cls d { nx := fun σ' H' => D.nx (σ'.set i none) H', rt := D.rt, bk := fun σ' H' => D.bk (σ'.set i none) H', ct := fun σ' H' => D.ct (σ'.set i none) H' } (σ.set i (some (.ref a))) H) :
    wAs K c i ts Wout D cls d σ H := ⟨true, e, fun _ => h, fun z => by cases z⟩
theorem pe_xfN {oe : Obj} {cls : Value} {d : Option Addr} {pn : List (Addr × Obj)} {e : Expr} {te : TE} (T : ErrK Γ k x C m fs ns) (hK : X.K = Γ.K) (hn : f ∈ ns) (hz : L2N.Zn cls d oe) (hf : ∃ vs, oe.data = .fields vs) (he : PE (X.suite a ((a, oe) :: pn)) e te)
    (hb : attributeBase e f X.env (eval e X.env) = eval e X.env := by rfl) : PE (X.suite a ((a, oe) :: pn)) (.Attribute e f pos) (tXf a cls d C f te) :=
  pe_xf (by rw [hK]; exact T.xf) (by rw [hK]; exact T.no f hn) hz.zc hf he hb
theorem pe_bmS {name : Str} {apos cpos : Pos} {T id : String} {r : V → List V → Hp → VK → Prop} {to : TE} {t : TA} {o e : Expr} {es : List Expr} (hK : X.K = Γ.K) (pa : PlainAttrs T) (slot : Slot T name id) (hty : typeOf (.builtin id) = pure (.type "method_descriptor")) (hm : MtR X id r) (ho : PE X o to) (ha : PA X (e :: es) t)
    (hbase : attributeBase o name X.env (eval o X.env) = eval o X.env := by rfl)
    (hfew : ((backTo cpos (starEach (e :: es) X.env)).all (fun x => !x.1) && (backToKw cpos (keywordEach [] X.env)).all (fun x => x.1.isSome)
      && decide ((e :: es).length + ([] : List Keyword).length + (if ([] : List Keyword).isEmpty then 0 else 1) < 30)) = true := by rfl)
    (hline : (apos.endLine == cpos.line) = true := by rfl) (hs : starEach (e :: es) X.env = (false, eval e X.env) :: starEach es X.env := by rfl) (hplain : (backTo cpos (starEach es X.env)).any (·.1) = false := by rfl) :
    PE X (.Call (.Attribute o name apos) (e :: es) [] cpos) (tBM Γ.K T r to t) := by rw [← hK]; exact pe_bm pa slot hty hm ho ha hbase hfew hline hs hplain
end
/-! ### what the written part says of a class of errors -/
def oexB (C : Addr) (K : PySem.W.Frag) : Bool := (match K.lookup C with
  | some ⟨.type "type", _, .cls cd, sl⟩ => (match cd.mro, sl.toList with
    | .ref C' :: bm, [_, _, _, _, some (.builtin n), _] => C' == C && (n == "ValueError.__new__" && (!cd.hasDel && (cd.hasDict && PySem.HandSPX.refsVE bm)))
    | _, _ => false)
  | _ => false) && (eqB (PySem.W.findIn K (.ref C) "__setattr__") (some (some (.builtin "object.__setattr__"))) && (decide (PySem.W.subIn K (.ref C) (.type "BaseException") = some true) && (decide (PySem.W.typeIn K (.ref C) = some (.type "type")) && PySem.W.keepIn K (.ref C))))
def errB (x : Str) (ns : List Str) (K : PySem.W.Frag) : Bool := oexB (He.ga K x) K && (xfB K (He.ga K x) && (okFa (.glo x) K && ((ns.all fun f => eqB (PySem.W.findIn K (.ref (He.ga K x)) f) (some none)) && (eqB (PySem.W.findIn K (.ref (He.ga K x)) "__init__") (some (some (.ref (He.ma K (He.ga K x) "__init__")))) && decide (PySem.W.typeIn K (.ref (He.ma K (He.ga K x) "__init__")) = some (.type "function"))))))
theorem oex_of {C : Addr} {K : PySem.W.Frag} (h : oexB C K = true) : OexC K C := by
  obtain ⟨c, h⟩ := He.ba h
  obtain ⟨h1, h⟩ := He.ba h
  obtain ⟨h2, h⟩ := He.ba h
  obtain ⟨h3, h4⟩ := He.ba h
  refine ⟨?_, of_decide_eq_true h1, of_decide_eq_true h2, of_decide_eq_true h3, h4⟩
  split at c
  · rename_i dd cd sl ho
    split at c
    · rename_i C' bm k0 k1 k2 k3 n k5 hm hs
      obtain ⟨c1, c⟩ := He.ba c
      obtain ⟨c2, c⟩ := He.ba c
      obtain ⟨c3, c⟩ := He.ba c
      obtain ⟨c4, c5⟩ := He.ba c
      obtain ⟨l⟩ := sl
      obtain ⟨nm, bs, mro, ns, qn, hd, sn, sub, ab, col, del⟩ := cd
      simp only at hm hs c3 c4
      obtain rfl : C' = C := beq_iff_eq.mp c1
      obtain rfl : n = "ValueError.__new__" := beq_iff_eq.mp c2
      subst hm hs c4
      obtain rfl : del = false := by simpa using c3
      exact ⟨nm, qn, ns, bs, bm, sn, sub, ab, col, dd, k0, k1, k2, k3, k5, ho, c5⟩
    · cases c
  · cases c
theorem err_of {P : Program} {w : World} {K : PySem.W.Frag} {mg : Str → Option Value} {base h : Heap} {lv k n : Nat} {x : Str} {fs : List V → List (Str × V)} {ns : List Str} {fd : FuncData} {ps : List Str} (X : K.In h) (N : h.Ns mainGlobals mg) (c : errB x ns K = true) (hn : n ≤ 1000)
    (F : OexC K (He.ga K x) → (∀ f ∈ ns, PySem.W.findIn K (.ref (He.ga K x)) f = some none) → FnOk P w K mg base CX0 k (He.ma K (He.ga K x) "__init__") fd ps (spErr (He.ga K x) n fs)) (b : Binds K fd ps []) : ErrK ⟨P, w, K, mg, base, lv⟩ k x (He.ga K x) n fs ns := by
  obtain ⟨h1, c⟩ := He.ba c
  obtain ⟨h2, c⟩ := He.ba c
  obtain ⟨h3, c⟩ := He.ba c
  obtain ⟨h4, c⟩ := He.ba c
  obtain ⟨h5, h6⟩ := He.ba c
  exact ⟨oex_of h1, fun f hf => of_decide_eq_true (List.all_eq_true.mp h4 f hf), xfB_ok h2, He.glo_ok X N h3, hn, _, fd, ps, F (oex_of h1) fun f hf => of_decide_eq_true (List.all_eq_true.mp h4 f hf), of_decide_eq_true h5, of_decide_eq_true h6, b⟩
/-- __init__ of a class of errors with one, two, three values; with none -/
theorem st_err1 {K : PySem.W.Frag} {C a : Addr} {f : Str} {v : V} {D : Ends} {σ : L2.St} {H : Hp} {to te : TE} (T : OexC K C) (hn : PySem.W.findIn K (.ref C) f = some none) (he : ∀ Q : VK, Q v H → te σ H Q) (ho : ∀ Q : VK, Q (.ref a) H → to σ H Q) (h : H a = some (exo a C none)) (q : ∀ dx, H dx = none → dx ≠ a → D.nx σ (L2.upd (L2.upd H dx (exd dx [(f, v)])) a (exo a C (some dx)))) : tOst K f to te D σ H :=
  he _ (ho _ ⟨a, C, rfl, T, hn, .inl ⟨h, q⟩⟩)
theorem st_err2 {K : PySem.W.Frag} {C a dx : Addr} {f : Str} {v : V} {D : Ends} {σ : L2.St} {H : Hp} {to te : TE} {fs : List (Str × V)} (T : OexC K C) (hn : PySem.W.findIn K (.ref C) f = some none) (hl : fs.length ≤ 900) (hd : dx ≠ a)
    (he : ∀ (H' : Hp) (Q : VK), Q v H' → te σ H' Q) (ho : ∀ (H' : Hp) (Q : VK), Q (.ref a) H' → to σ H' Q) (q : D.nx σ (L2.upd (L2.upd H dx (exd dx ((f, v) :: fs))) a (exo a C (some dx)))) : tOst K f to te D σ (L2.upd (L2.upd H dx (exd dx fs)) a (exo a C (some dx))) := by
  refine he _ _ (ho _ _ ⟨a, C, rfl, T, hn, .inr ⟨dx, fs, upd_same, by rw [upd_ne hd, upd_same], hl, ?_⟩⟩)
  rw [upd_upd (Ne.symm hd), upd_over]
  exact q
theorem fun_any {Γ : Gm} {x q : Str} {st : Stmt} {ps N : List Str} {k : Nat} {sp : Sp} {f : Addr} {fd : FuncData} (F : L2.Fun Γ.K x q st f fd) (S : FnScope N ps (defScope st)) (len : ∀ vs H Q E, sp vs H Q E → vs.length = ps.length)
    (hb : ∀ (f : Addr) (cdv : Value) (A : Around) (outer : List Env) (s : Shared) (H : Hp) (vs : List V) (Q : VK) (E : XK), Good (Γ.at k) (cxOf CX0 Γ.P Γ.w Γ.K Γ.mg Γ.base N q (defScope st) f cdv A outer s H E).nox → sp vs H Q E →
      ∃ t, PSs (cxOf CX0 Γ.P Γ.w Γ.K Γ.mg Γ.base N q (defScope st) f cdv A outer s H E).nox (defBody st) t ∧ t { nx := fun _ H' => Q .non H', rt := Q } (L2.start N vs) H) : FnOk Γ.P Γ.w Γ.K Γ.mg Γ.base CX0 (k + 1) f fd ps sp :=
  F.ok S len fun cdv A outer s H vs Q E hr h => hb f cdv A outer s H vs Q E (Good.of hr).nox h
end G
/-! data compared: == and != of any data -/
namespace G
open PySem PySem.Spec PyProof.Rows L2 StX
section
variable {Γ : Gm} {H : Hp} {Q : VK} {x y : V} {d e : PyData}
theorem wo_eqD (hx : Dp Γ.K H x d) (hy : Dp Γ.K H y e) (s1 : SeqAt.shaped d = true) (s2 : SeqAt.shaped e = true) (k : Q (.bl (PyData.eqv d e)) H) : WO Γ (compareOp .Eq) x y H Q :=
  ⟨rEqD Γ.K, fun X g => (by have := op_eqD (X := X) (Nat.lt_of_le_of_lt (Nat.le_refl _) g.hu64); rw [g.K] at this; exact this), _, _, hx, hy, s1, s2, k⟩
theorem wo_neD (hx : Dp Γ.K H x d) (hy : Dp Γ.K H y e) (s1 : SeqAt.shaped d = true) (s2 : SeqAt.shaped e = true) (k : Q (.bl (!PyData.eqv d e)) H) : WO Γ (compareOp .NotEq) x y H Q :=
  ⟨rNeD Γ.K, fun X g => (by have := op_neD (X := X) (Nat.lt_of_le_of_lt (Nat.le_refl _) g.hu64); rw [g.K] at this; exact this), _, _, hx, hy, s1, s2, k⟩
theorem eqv_self (s : SeqAt.shaped d = true) : PyData.eqv d d = true := SeqAt.eqv_refl d (SeqAt.canLay_of_shaped s)
theorem wo_eqS1 (hx : Dp Γ.K H x d) (hy : Dp Γ.K H y d) (s : SeqAt.shaped d = true) (k : Q (.bl true) H) : WO Γ (compareOp .Eq) x y H Q := wo_eqD hx hy s s (by rw [eqv_self s]; exact k)
theorem wo_neS1 (hx : Dp Γ.K H x d) (hy : Dp Γ.K H y d) (s : SeqAt.shaped d = true) (k : Q (.bl false) H) : WO Γ (compareOp .NotEq) x y H Q := wo_neD hx hy s s (by rw [eqv_self s]; exact k)
end
theorem shaped_of {d : PyData} (h1 : d.canLay0 = true) (h2 : d.depth ≤ 64) : SeqAt.shaped d = true := by unfold SeqAt.shaped; rw [h1, decide_eq_true h2]; rfl
theorem canAll {ds : List PyData} (h : ∀ d ∈ ds, d.canLay0 = true) : PyData.canLayAll0 ds = true := by
  induction ds with
  | nil => rfl
  | cons d ds ih => simp only [PyData.canLayAll0, h d (.head _), ih fun e he => h e (.tail _ he), Bool.and_self]
theorem depAll {ds : List PyData} {n : Nat} (h : ∀ d ∈ ds, d.depth ≤ n) : PyData.depthAll ds ≤ n := by
  induction ds with
  | nil => simp only [PyData.depthAll]; omega
  | cons d ds ih =>
    have h1 := h d (.head _)
    have h2 := ih fun e he => h e (.tail _ he)
    simp only [PyData.depthAll]
    omega
theorem shaped_tup {ds : List PyData} (h : ∀ d ∈ ds, SeqAt.shaped d = true ∧ d.depth ≤ 63) : SeqAt.shaped (.tuple ds) = true := by
  refine shaped_of ?_ ?_
  · simp only [PyData.canLay0]
    exact canAll fun d hd => SeqAt.canLay_of_shaped (h d hd).1
  · simp only [PyData.depth]
    have := depAll fun d hd => (h d hd).2
    omega
theorem dep_tup {ds : List PyData} {n : Nat} (h : ∀ d ∈ ds, d.depth ≤ n) : (PyData.tuple ds).depth ≤ n + 1 := by
  simp only [PyData.depth]
  have := depAll h
  omega
end G
/-! lists unpacked; an own class called with keywords; isinstance of a caught error with own values -/
namespace G
open PySem PySem.Spec PyProof.Rows L2
/-- a tuple or a list -/
def SqE (K : PySem.W.Frag) (H : Hp) (p : Addr) (xs : List V) : Prop := SqT K H p xs ∨ SqL K H p xs
/-- (a, b, ..) = a tuple or a list of that length -/
def gSq (K : PySem.W.Frag) (n : Nat) (t : TGs) : TG := fun v σ H Q => ∃ a xs, v = .ref a ∧ SqE K H a xs ∧ xs.length = n ∧ t xs σ H Q
section
variable {Γ : Gm} {X : Cx} {pos : Pos}
theorem pg_sK {es : List Expr} {k : Nat} {t : TGs} (g : Good Γ X) (n : Nat) (hc : X.calm = true) (h : PGs X es t) (hn : (assignEach es X.env).length = n := by rfl) (hst : (assignEach es X.env).findIdx? (·.1) = none := by rfl) : PG X (.Tuple es k pos) (gSq Γ.K n t) := by
  rw [← g.K]
  refine ⟨fun pins s σ H v u Q I r hw => ?_⟩
  obtain ⟨a, xs, e1, hq, hl, hw⟩ := hw
  rcases hq with hq | hq
  · exact (pg_tup hc h hn hst).run pins s σ H v u Q I r ⟨a, xs, e1, hq, hl, hw⟩
  · exact (pg_unl hc h hn hst).run pins s σ H v u Q I r ⟨a, xs, e1, hq, hl, hw⟩
end
theorem gs_of {K : PySem.W.Frag} {n : Nat} {t : TGs} {T : Addr} {xs : List V} {σ : L2.St} {H : Hp} {Q : L2.St → Hp → Prop} (m : SqE K H T xs) (hn : xs.length = n) (h : t xs σ H Q) : gSq K n t (.ref T) σ H Q := ⟨T, xs, rfl, m, hn, h⟩
/-! ### C(e, k = v) -/
structure Mkrk (Γ : Gm) (CX : CXT) (k : Nat) (x : Str) (C : Addr) (sp : Sp) (n : Nat) (ks : List Str) (gV : List V → List V → List V) : Prop where
  ex : ∃ (f : Addr) (fd : FuncData) (ps : List Str) (g : List Value → List Value → List Value), FnOk Γ.P Γ.w Γ.K Γ.mg Γ.base CX k f fd ps sp ∧ Mk Γ.K C f ∧ Γ.mg x = some (.ref C) ∧ KBn Γ.K fd ps (n + 1) ks g gV
section
variable {Γ : Gm} {X : Cx} {CX : CXT} {k l n : Nat} {C : Addr} {x : Str} {sp : Sp} {ks : List Str} {E : XK} {p pos : Pos} {e : Expr} {es : List Expr} {kws : List Keyword} {t tk : TA} {gV : List V → List V → List V}
theorem pmkk (M : Mkrk Γ CX k x C sp n ks gV) (g : Good (Γ.at l) X) (hn : k + 1 ≤ l) (hg : gvB X.env.scope x = true) (hx : Passes CX X E)
    (ha : PA X (e :: es) t) (hkw : PK X kws tk) (hall : (backToKw pos (keywordEach kws X.env)).all (·.1.isSome) = true := by rfl) (hks : (backToKw pos (keywordEach kws X.env)).filterMap (·.1) = ks := by rfl)
    (he : starEach (e :: es) X.env = (false, eval e X.env) :: starEach es X.env := by rfl)
    (hpl : ((backTo pos (starEach (e :: es) X.env)).any (·.1) || (backToKw pos (keywordEach kws X.env)).any (·.1.isNone)) = false := by rfl) :
    PE X (.Call (.Name x p) (e :: es) kws pos) (tMakeN C n ks.length sp gV E t tk) := by
  obtain ⟨P, w, K, mg, base, lv⟩ := Γ
  obtain ⟨h1, h2, h3, h4, h5, _, hr⟩ := g
  simp only at h1 h2 h3 h4 h5 hr
  subst h1 h2 h3 h4 h5
  obtain ⟨f, fd, ps, g, F, mk, hm, hb⟩ := M.ex
  exact pe_makeN mk F (hr.mono hn) (gv_of hg).1 hm hb hx ha hkw hall hks (gv_of hg).2.1 he hpl
end
/-! ### isinstance(e, c) in the suite -/
def rIsN (K : PySem.W.Frag) (cls : Value) (d : Option Addr) (a : Addr) : List V → Hp → VK → Prop := fun xs H Q => ∃ (D dd : Addr) (fs : List (Str × V)) (c : V) (cv : Value) (b : Bool), xs = [.ref a, c] ∧ cls = .ref D ∧ d = some dd ∧ H dd = some (.xd fs) ∧ ExcC K D ∧ ClsV c cv ∧ PySem.W.kitOne K (.ref D) cv = some b ∧ Q (.bl b) H
theorem call_isN {X : Cx} {K : PySem.W.Frag} {a : Addr} {cls : Value} {d : Option Addr} {oe : Obj} {pn : List (Addr × Obj)} (hK : X.K = K) (hz : L2N.Zn cls d oe) (hf : ∃ vs, oe.data = .fields vs) : CallR (X.suite a ((a, oe) :: pn)) (.builtin "isinstance") (rIsN K cls d a) := by
  subst hK
  intro pins s σ H xs us Q I r h
  obtain ⟨D, dd, fs, c, cv, b, rfl, rfl, rfl, ea, C, hcv, e, q⟩ := h
  cases r with
  | cons rx rr =>
    cases rr with
    | cons rt rr =>
      cases rr
      cases rx
      obtain ⟨ha, _⟩ := I.pin (a, oe) (List.mem_append.mpr (.inl List.mem_cons_self))
      obtain ⟨vs, hd⟩ := hf
      obtain ⟨mA, hns, hr⟩ := (I.hok dd _ ea : ObjOk X.prog X.w H s.heap dd (.xd fs))
      obtain ⟨od, ho, hl⟩ := lookIn_ns hns
      have J : PySem.W.InstAt s.heap a oe D (some od) := ⟨ha, hz.1, by unfold PySem.W.notCls; rw [hd] <;> rfl, by rw [hz.2.1]; exact ho⟩
      obtain ⟨cd, hc, _⟩ := PySem.W.any_some C.hd
      have ec := hcv.eq rt
      subst ec
      exact PySem.W.kia_one (PySem.W.kitx_exc (by rw [hc]; rfl) C.hg C.hk C.hs C.ha C.hn C.ht C.hm) I.kIn J e (fun z => nomatch z) fun tk => ⟨.bl b, H, I.kept (t' := tk) fun _ _ z => z, rfl, q⟩
/-- what the written part says of a class of errors that isinstance asks -/
def excB (D : Addr) (K : PySem.W.Frag) : Bool := decide (PySem.W.findIn K (.ref D) "__getattribute__" = some (some (.builtin "BaseException.__getattribute__"))) && (decide (PySem.W.findIn K (.ref D) "__getattr__" = some none) && (decide (PySem.W.subIn K (.ref D) (.type "BaseException") = some true) && (PySem.W.hasDictIn K D && (decide (PySem.W.findIn K (.ref D) "__class__" = some (some (.builtin "object.__class__"))) && (decide (PySem.W.specialIn K (.builtin "object.__class__") "__get__" = some (some (.builtin "getset_descriptor.__get__"))) && (decide (PySem.W.takesIn K (.builtin "object.__class__") = some true) && decide (PySem.W.mroIn K D (.type "object") = some true)))))))
theorem excB_ok {K : PySem.W.Frag} {D : Addr} (c : excB D K = true) : ExcC K D := by
  obtain ⟨h1, c⟩ := He.ba c
  obtain ⟨h2, c⟩ := He.ba c
  obtain ⟨h3, c⟩ := He.ba c
  obtain ⟨h4, c⟩ := He.ba c
  obtain ⟨h5, c⟩ := He.ba c
  obtain ⟨h6, c⟩ := He.ba c
  obtain ⟨h7, h8⟩ := He.ba c
  exact ⟨of_decide_eq_true h1, of_decide_eq_true h2, of_decide_eq_true h3, h4, of_decide_eq_true h5, of_decide_eq_true h6, of_decide_eq_true h7, of_decide_eq_true h8⟩
theorem bt_ValueError : bootBuiltins "ValueError" = some (.type "ValueError") := by with_unfolding_all rfl
theorem pe_andS {Γ : Gm} {X : Cx} {a b : Expr} {pos : Pos} {ta tb : TE} {rest : List Expr} (hK : X.K = Γ.K) (ha : PE X a ta) (hb : PE X (.BoolOp .And (b :: rest) pos) tb) : PE X (.BoolOp .And (a :: b :: rest) pos) (tAndB2 Γ ta tb) := by
  have e : tAndB2 Γ ta tb = tAndT X.K ta tb := by
    rw [hK]
    funext σ H Q
    unfold tAndB2 tAndT
    congr 1; funext x H'
    rw [tru_eq]
    congr 1; funext k
    rw [br_eq]
  rw [e]; exact pe_andT ha hb
def excBx (x : Str) (K : PySem.W.Frag) : Bool := excB (He.ga K x) K
def kiB (x y : Str) (K : PySem.W.Frag) : Bool := decide (PySem.W.kitOne K (.ref (He.ga K x)) (.ref (He.ga K y)) = some true)
def kiTB (x : Str) (t : String) (K : PySem.W.Frag) : Bool := decide (PySem.W.kitOne K (.ref (He.ga K x)) (.type t) = some true)
end G
/-! pieces of texts -/
namespace G
open PySem PySem.Spec PyProof.Rows L2
section
variable {Γ : Gm} {H : Hp} {Q : VK} {z : Str}
theorem wl_s {lo hi : Option Int} (hz : z.length ≤ sizeLine) (q : Q (.str (cutS z lo hi)) H) : WL Γ (.str z) lo hi H Q := ⟨_, fun _ g => sl_str, z, rfl, hz, q⟩
end
/-- a text of these signs -/
def tx (cs : List Nat) : Str := ⟨cs.toArray⟩
theorem tx_of (z : Str) : tx z.cps.toList = z := by unfold tx; simp
theorem tx_cps (cs : List Nat) : (tx cs).cps.toList = cs := by unfold tx; simp
theorem tx_len (cs : List Nat) : (tx cs).length = cs.length := by unfold tx Str.length; simp
theorem tx_app (a b : List Nat) : tx a ++ tx b = tx (a ++ b) := by
  show (⟨a.toArray ++ b.toArray⟩ : Str) = _
  unfold tx
  simp
theorem tx_inj {a b : List Nat} (h : tx a = tx b) : a = b := by
  have := congrArg (fun z : Str => z.cps.toList) h
  simpa [tx] using this
theorem cut_tx (cs : List Nat) (a b : Nat) : cutS (tx cs) (some (a : Int)) (some (b : Int)) = tx ((cs.drop a).take (b - a)) := by
  unfold cutS
  rw [tx_len, tx_cps, HT.sIx_nat, HT.sIx_nat]
  unfold tx
  congr 2
  refine List.ext_getElem? fun i => ?_
  simp only [List.getElem?_take, List.getElem?_drop]
  by_cases h : a ≤ cs.length
  · rw [Nat.min_eq_left h]
    by_cases h1 : i < b - a
    · rw [if_pos h1]
      by_cases h2 : i < min b cs.length - a
      · rw [if_pos h2]
      · rw [if_neg h2, List.getElem?_eq_none (by omega)]
    · rw [if_neg h1, if_neg (by omega)]
  · rw [if_neg (by omega)]
    split
    · rw [List.getElem?_eq_none (by omega)]
    · rfl
theorem cut_tx0 (cs : List Nat) (b : Nat) : cutS (tx cs) none (some (b : Int)) = tx (cs.take b) := by
  unfold cutS
  rw [tx_len, tx_cps, HT.sIx_nat, HT.sIx_none, List.drop_zero, Nat.sub_zero]
  unfold tx
  congr 2
  refine List.ext_getElem? fun i => ?_
  simp only [List.getElem?_take]
  by_cases h1 : i < b
  · rw [if_pos h1]
    by_cases h2 : i < min b cs.length
    · rw [if_pos h2]
    · rw [if_neg h2, List.getElem?_eq_none (by omega)]
  · rw [if_neg h1, if_neg (by omega)]
theorem cut_tx1 (cs : List Nat) (a : Nat) : cutS (tx cs) (some (a : Int)) none = tx (cs.drop a) := by
  unfold cutS
  rw [tx_len, tx_cps, HT.sIx_nat, HT.sIx_none]
  unfold tx
  congr 2
  by_cases h : a ≤ cs.length
  · rw [Nat.min_eq_left h, List.take_of_length_le (by rw [List.length_drop]; omega)]
  · rw [Nat.min_eq_right (by omega), List.drop_of_length_le (Nat.le_refl _), List.drop_of_length_le (by omega)]
    simp
theorem wx_tx {Γ : Gm} {H : Hp} {Q : VK} {cs : List Nat} {i c : Nat} (hz : cs.length ≤ sizeLine) (h : cs[i]? = some c) (q : Q (.str ⟨#[c]⟩) H) : WX Γ (.str (tx cs)) (.int (i : Nat)) H Q :=
  wx_s (by rw [tx_len]; exact hz) (by rw [tx_cps]; exact atG rfl h) q
theorem wi_add {Γ : Gm} {i j : Int} {H : Hp} {Q : VK} (q : Q (.int (i + j)) H) : WI Γ .Add (.int i) (.int j) H Q :=
  ⟨rAdd, fun X g => fun pins s σ H x y u v Q I rx ry h => in_add pins s σ H x y u v Q I rx ry h, i, j, rfl, rfl, q⟩
/-- the class Reader -/
structure KR (Γ : Gm) (C : Addr) : Prop where
  k : Kls Γ C
  mg : Γ.mg "Reader" = some (.ref C)
  n1 : NoAttr Γ.K C "symbols"
  n2 : NoAttr Γ.K C "place"
  n3 : NoAttr Γ.K C "last"
def krB (K : PySem.W.Frag) : Bool := klsB "Reader" K && (okFa (.glo "Reader") K && (okFa (.noat "Reader" "symbols") K && (okFa (.noat "Reader" "place") K && okFa (.noat "Reader" "last") K)))
theorem kr_of {P : Program} {w : World} {K : PySem.W.Frag} {mg : Str → Option Value} {base h : Heap} {lv : Nat} (X : K.In h) (N : h.Ns mainGlobals mg) (c : krB K = true) : KR ⟨P, w, K, mg, base, lv⟩ (He.ga K "Reader") := by
  obtain ⟨h1, c⟩ := He.ba c
  obtain ⟨h2, c⟩ := He.ba c
  obtain ⟨h3, c⟩ := He.ba c
  obtain ⟨h4, h5⟩ := He.ba c
  exact ⟨kls_of h1, He.glo_ok X N h2, noat_of h3, noat_of h4, noat_of h5⟩
/-- a tuple of texts that the top has left -/
structure TpG (K : PySem.W.Frag) (p : Addr) (ys : List Str) : Prop where
  ex : ∃ (o : Obj) (its : Array Value) (n : Nat), K.lookup p = some o ∧ o.cls = .type "tuple" ∧ o.dict = none ∧ o.data = .seq its n ∧ its.size ≤ sizeLine ∧ Vals (ys.map V.str) its.toList
theorem TpG.sq {K : PySem.W.Frag} {p : Addr} {ys : List Str} (t : TpG K p ys) (H : Hp) : SqT K H p (ys.map V.str) := by
  obtain ⟨o, its, n, h1, h2, h3, h4, h5, h6⟩ := t.ex
  exact .inr ⟨o, its, n, h1, h2, h4, h5, h6⟩
theorem TpG.ty {K : PySem.W.Frag} {p : Addr} {ys : List Str} (t : TpG K p ys) (H : Hp) : tyV K "tuple" (.ref p) H := by
  obtain ⟨o, its, n, h1, h2, h3, h4, h5, h6⟩ := t.ex
  exact .inr (.inl ⟨rfl, o, h1, h2, h3⟩)
def strsB : List Str → List Value → Bool
  | [], [] => true
  | y :: ys, .str z _ :: vs => decide (z = y) && strsB ys vs
  | _, _ => false
theorem strsB_ok : ∀ {ys : List Str} {vs : List Value}, strsB ys vs = true → Vals (ys.map V.str) vs
  | [], [], _ => .nil
  | y :: ys, .str z t :: vs, h => by
    obtain ⟨h1, h2⟩ := He.ba (show (decide (z = y) && strsB ys vs) = true from h)
    rw [of_decide_eq_true h1]
    exact .cons ⟨t, rfl⟩ (strsB_ok h2)
def tpgB (x : Str) (ys : List Str) (K : PySem.W.Frag) : Bool := okFa (.glo x) K && (decide (ys.length ≤ 1000) && (match K.lookup (He.ga K x) with
  | some ⟨.type c, none, .seq its _, _⟩ => decide (c = "tuple") && strsB ys its.toList
  | _ => false))
theorem tpg_of {x : Str} {ys : List Str} {K : PySem.W.Frag} (h : tpgB x ys K = true) : TpG K (He.ga K x) ys := by
  obtain ⟨_, h⟩ := He.ba h
  obtain ⟨hl, h⟩ := He.ba h
  have hl := of_decide_eq_true hl
  split at h
  · rename_i c its n sl q
    obtain ⟨h1, h2⟩ := He.ba h
    have v := strsB_ok h2
    refine ⟨_, its, n, q, congrArg Value.type (of_decide_eq_true h1), rfl, rfl, szl ?_, v⟩
    have := v.length
    rw [List.length_map] at this
    have e : its.toList.length = its.size := Array.length_toList
    omega
  · cases h
end G
/-! methods without arguments that may raise -/
namespace G
open PySem PySem.Spec PyProof.Rows L2 StX
section
variable {Γ : Gm} {X : Cx} {W : L2.WX} {m : Str} {o : Expr} {ta : TE} {pos apos : Pos}
theorem pe_mwX0 {pl : Sem Bool} (g : Good Γ X) (tk : L2N.Takes X W) (ho : PE X o ta)
    (ht : eval (.Call (.Attribute o m apos) [] [] pos) X.env = (do
      let ov ← eval o X.env
      standAt apos.atName
      let (f, first) ← holding [ov] (getMethod ov m pl)
      callWith pos f first (backTo pos (starEach [] X.env)) (backToKw pos (keywordEach [] X.env))) := by rfl) :
    PE X (.Call (.Attribute o m apos) [] [] pos) (tMwX Γ W m ta tNil) := by
  refine ⟨fun pins s σ H Q I h => ?_⟩
  refine PySem.W.methodCall_KW (pl := pl) (thn (ho.run pins s σ H _ I h) fun u s1 ⟨x, H1, I1, rx, n, C, a, dx, fs, sp, dvs, M, hn, ex, ea, l, q⟩ => ?_) ht
  subst ex
  obtain rfl : u = Value.ref a := rx
  obtain ⟨P, w, K, mg, base, lv⟩ := Γ
  obtain ⟨h1, h2, h3, h4, h5, _, hr⟩ := g
  simp only at h1 h2 h3 h4 h5 hr
  subst h1 h2 h3 h4 h5
  obtain ⟨f, fd, ps, ds, F, c, hm, hb, hd⟩ := M.ex
  refine getmeth_ok I1 ea c hm l ?_
  exact PySem.W.callWith_K0 (first := [.ref a]) I1.kIn hm.kp (run_fnSD (E := fun σ c d H' => W c d σ H') (us := [.ref a]) (vs := [.ref a]) F (hr.mono hn) hb hd (passN tk σ) I1 (.cons rfl .nil) q)
end
/-! ### keywords alone, no defaults -/
theorem kbN {K : PySem.W.Frag} {x qual : Str} {params : Arguments} {body : List Stmt} {scope : Scope} {kws : List (Str × V)} {f : Addr} {fd : FuncData} {ps ks : List Str} {n : Nat} (F : FunD K x qual params body scope [] kws f fd)
    (h : ∀ (kV doc pm : Value) (an : Option Addr) (cdv ct : Value) (us ws : List Value), us.length = n → ws.length = ks.length → bindArgs (PySem.W.fnOf x qual params body scope .none kV doc pm an cdv ct) ⟨us, ks.zip ws⟩ = pure (ps.zip (us ++ ws))) : KBn K fd ps n ks (fun us ws => us ++ ws) (fun vs zs => vs ++ zs) := by
  obtain ⟨oc, od, dV, kV, doc, pm, an, cdv, ct, osl, rfl, lk, hcd, hD, hK⟩ := F.ex
  rcases hD with ⟨_, rfl⟩ | ⟨e, _⟩
  · exact ⟨fun s us ws _ l1 l2 => .of_eq (h kV doc pm an cdv ct us ws l1 l2), fun r1 r2 => r1.append r2⟩
  · exact absurd rfl e
def tCallKX (n m : Nat) (sp : Sp) (W : L2.WX) (t tk : TA) : TE := fun σ H Q => t σ H fun vs H1 => tk σ H1 fun zs H2 => vs.length = n ∧ zs.length = m ∧ sp (vs ++ zs) H2 Q fun c d H' => W c d σ H'
section
variable {Γ : Gm} {X : Cx} {CX : CXT} {W : L2.WX} {x : Str} {kws : List Keyword} {ks : List Str} {tk : TA} {pos p : Pos} {k l : Nat} {sp : Sp} {E : XK}
theorem run_fnNX {pins : List (Addr × Obj)} {σ : L2.St} {H : Hp} {s : Shared} {f : Addr} {fd : FuncData} {ps : List Str} {Q : VK} {us ws : List Value} {vs zs : List V} {n : Nat} {E : XK} {g : List Value → List Value → List Value} {gV : List V → List V → List V} (F : FnOk X.prog X.w X.K X.mg X.base CX k f fd ps sp) (hr : Room k X.A) (hb : KBn X.K fd ps n ks g gV) (hx : PassesAt CX X σ E)
    (I : Inv X pins σ H s) (r : Vals vs us) (rz : Vals zs ws) (l1 : vs.length = n) (l2 : zs.length = ks.length) (h : sp (gV vs zs) H Q E) : wpAny (model X.prog X.w) X.A (call (.ref f) us (ks.zip ws)) (EP X pins σ Q) X.xe s := by
  have r2 := hb.rel r rz
  refine wpAny_call (codeAny_mono (F.run X.A X.stack s H ⟨us, ks.zip ws⟩ (g us ws) (gV vs zs) Q E hr I.env0 (hb.to s us ws I.kIn (r.length.symm.trans l1) (rz.length.symm.trans l2)) r2 h) fun r s' hq => ?_)
  cases r with
  | error e => exact hx pins H s e s' I hq
  | ok fl =>
    cases fl with
    | ret u => exact I.after hq
    | next => exact False.elim hq
    | brk => exact False.elim hq
    | cont => exact False.elim hq
theorem pclkX0 (c : Clk Γ (CXN Γ) k x sp 0 ks) (g : Good (Γ.at l) X) (tk' : L2N.Takes X W) (hk : k ≤ l) (hg : gvB X.env.scope x = true) (hkw : PK X kws tk)
    (hall : (backToKw pos (keywordEach kws X.env)).all (·.1.isSome) = true := by rfl) (hks : (backToKw pos (keywordEach kws X.env)).filterMap (·.1) = ks := by rfl)
    (hpl : ((backTo pos (starEach [] X.env)).any (·.1) || (backToKw pos (keywordEach kws X.env)).any (·.1.isNone)) = false := by rfl) :
    PE X (.Call (.Name x p) [] kws pos) (tCallKX 0 ks.length sp W tNil tk) := by
  obtain ⟨P, w, K, mg, base, lv⟩ := Γ
  obtain ⟨h1, h2, h3, h4, h5, _, hr⟩ := g
  simp only at h1 h2 h3 h4 h5 hr
  subst h1 h2 h3 h4 h5
  obtain ⟨f, fd, ps, F, m, kp, kb⟩ := c.ex
  refine ⟨fun pins s σ H Q I h => ?_⟩
  refine wpAny_Call_Name_kw (ld_glob I (gv_of hg).1 m ?_ (gv_of hg).2.1)
  refine PySem.W.callWith_KW0 (h₀ := X.base) I.ok.mod.kin kp hall ?_ hpl
  refine thn (hkw.run pos pins s σ H _ I h) fun ws s2 ⟨zs, H2, I2, rz, l1, l2, q2⟩ => ⟨I2.kIn, ?_⟩
  rw [hks]
  exact run_fnNX (us := []) (vs := []) F (hr.mono hk) kb (passN tk' σ) I2 .nil rz rfl l2 q2
theorem pclk0 (c : Clk Γ CX k x sp 0 ks) (g : Good (Γ.at l) X) (hk : k ≤ l) (hg : gvB X.env.scope x = true) (hx : Passes CX X E) (hkw : PK X kws tk)
    (hall : (backToKw pos (keywordEach kws X.env)).all (·.1.isSome) = true := by rfl) (hks : (backToKw pos (keywordEach kws X.env)).filterMap (·.1) = ks := by rfl)
    (hpl : ((backTo pos (starEach [] X.env)).any (·.1) || (backToKw pos (keywordEach kws X.env)).any (·.1.isNone)) = false := by rfl) :
    PE X (.Call (.Name x p) [] kws pos) (tCallN 0 ks.length sp (fun vs zs => vs ++ zs) E tNil tk) := by
  obtain ⟨P, w, K, mg, base, lv⟩ := Γ
  obtain ⟨h1, h2, h3, h4, h5, _, hr⟩ := g
  simp only at h1 h2 h3 h4 h5 hr
  subst h1 h2 h3 h4 h5
  obtain ⟨f, fd, ps, F, m, kp, kb⟩ := c.ex
  refine ⟨fun pins s σ H Q I h => ?_⟩
  refine wpAny_Call_Name_kw (ld_glob I (gv_of hg).1 m ?_ (gv_of hg).2.1)
  refine PySem.W.callWith_KW0 (h₀ := X.base) I.ok.mod.kin kp hall ?_ hpl
  refine thn (hkw.run pos pins s σ H _ I h) fun ws s2 ⟨zs, H2, I2, rz, l1, l2, q2⟩ => ⟨I2.kIn, ?_⟩
  rw [hks]
  exact run_fnN (us := []) (vs := []) F (hr.mono hk) kb hx I2 .nil rz rfl l2 q2
end
/-- a def called by its parameters' names -/
theorem Dfn.ck {Γ : Gm} {CX : CXT} {k : Nat} {x : Str} {sp : Sp} {f : Addr} {fd : FuncData} {ps ks : List Str} {n : Nat} (c : ∃ (fd : FuncData), FnOk Γ.P Γ.w Γ.K Γ.mg Γ.base CX k f fd ps sp ∧ Γ.mg x = some (.ref f) ∧ PySem.W.keepIn Γ.K (.ref f) = true ∧ KBn Γ.K fd ps n ks (fun us ws => us ++ ws) (fun vs zs => vs ++ zs)) : Clk Γ CX k x sp n ks := by
  obtain ⟨fd, h⟩ := c
  exact ⟨f, fd, ps, h⟩
end G
/-! a sign times a number -/
namespace G
open PySem PySem.Spec PyProof.Rows L2 StX
theorem op_mul1 {X : Cx} : OpR X (binaryOp .Mult) (fun x y H Q => ∃ (c n : Nat), x = .str ⟨#[c]⟩ ∧ y = .int (n : Nat) ∧ n ≤ 1000 ∧ Q (.str (tx (List.replicate n c))) H) := by
  intro pins s σ H x y v u Q I rx ry h
  obtain ⟨c, n, rfl, rfl, hn, q⟩ := h
  obtain ⟨t, rfl⟩ := rx
  obtain ⟨t', rfl⟩ := ry
  refine SB.mul (mulOk_of 16 1048576 (show (1 : Nat) ≤ 16 by decide) (by omega) (by omega) (by decide) (by decide)) fun t2 k => ?_
  refine ⟨.str (tx (List.replicate n c)), H, I.tok _, ⟨t2, ?_⟩, q⟩
  have e := mul_one_list c (n : Int)
  rw [Int.toNat_natCast] at e
  have e2 : Txt.mul ⟨#[c]⟩ (n : Int) = tx (List.replicate n c) := by
    rw [← tx_of (Txt.mul ⟨#[c]⟩ (n : Int)), e]
  rw [e2]
theorem wo_mul1 {Γ : Gm} {c n : Nat} {H : Hp} {Q : VK} (hn : n ≤ 1000) (q : Q (.str (tx (List.replicate n c))) H) : WO Γ (binaryOp .Mult) (.str ⟨#[c]⟩) (.int (n : Nat)) H Q := ⟨_, fun _ _ => op_mul1, c, n, rfl, rfl, hn, q⟩
end G
/-! a caught error that is kept: the statements behind the try may ask it -/
namespace G
open PySem PySem.Spec PyProof.Rows L2
/-- where a kept error stands: it stays as it was caught -/
abbrev kx (X : Cx) (a : Addr) (oe : Obj) (pn : List (Addr × Obj)) : Cx := X.tr ((a, oe) :: pn) X.xe
section
variable {X : Cx} {pins pn' : List (Addr × Obj)} {σ : L2.St} {H : Hp} {s s' : Shared} {a : Addr} {oe : Obj} {D : Ends} {f : Flow}
theorem inv_keep (I : Inv (X.suite a ((a, oe) :: (X.pn ++ pins))) pn' σ H s) (ok : X.Ok) : Inv (kx X a oe (X.pn ++ pins)) [] σ H s :=
  ⟨ok.toTry _ _, I.os, I.bare, I.base, I.loc, I.cell, I.free, I.freeC, fun p hp => I.pin p (List.mem_append_left _ (by rwa [List.append_nil] at hp)), I.hok, I.len⟩
theorem inv_drop (I : Inv (kx X a oe (X.pn ++ pins)) pn' σ H s) (ok : X.Ok) : Inv X pins σ H s :=
  ⟨ok, I.os, I.bare, I.base, I.loc, I.cell, I.free, I.freeC, fun p hp => I.pin p (List.mem_append_left _ (List.mem_cons_of_mem _ hp)), I.hok, I.len⟩
theorem sp_drop (ok : X.Ok) (h : SP (kx X a oe (X.pn ++ pins)) pn' D f s') : SP X pins D f s' := by
  cases f with
  | next => obtain ⟨σ', H', I, q⟩ := h; exact ⟨σ', H', inv_drop I ok, q⟩
  | brk => obtain ⟨σ', H', I, q⟩ := h; exact ⟨σ', H', inv_drop I ok, q⟩
  | cont => obtain ⟨σ', H', I, q⟩ := h; exact ⟨σ', H', inv_drop I ok, q⟩
  | ret u => obtain ⟨v, σ', H', I, r, q⟩ := h; exact ⟨v, σ', H', inv_drop I ok, r, q⟩
end
/-- where a try ends: without an error, or behind the suite, with the error kept -/
def SPK (X : Cx) (pins : List (Addr × Obj)) (D : Ends) (n0 : L2.St → Hp → Prop) (n1 : Addr → Value → Option Addr → L2.St → Hp → Prop) (f : Flow) (s' : Shared) : Prop := match f with
  | .next => (∃ σ' H', Inv X pins σ' H' s' ∧ n0 σ' H') ∨ ∃ a oe cls d σ' H', L2N.Zn cls d oe ∧ (∃ vs, oe.data = .fields vs) ∧ Inv (kx X a oe (X.pn ++ pins)) [] σ' H' s' ∧ n1 a cls d σ' H'
  | .brk => SP X pins D .brk s'
  | .cont => SP X pins D .cont s'
  | .ret u => SP X pins D (.ret u) s'
/-- what is asked of an error of the body -/
def wK (K : PySem.W.Frag) (c : Value) (i : Nat) (ts : Addr → Value → Option Addr → TS) (Wout : L2.WX) (D : Ends) (n1 : Addr → Value → Option Addr → L2.St → Hp → Prop) : L2.WX := fun cls d σ H =>
  ∃ b, PySem.W.exmOne K cls c = some b ∧ (b = true → ∀ a, H a = none → ts a cls d { nx := fun σ' H' => n1 a cls d (σ'.set i none) H', rt := D.rt, bk := fun σ' H' => D.bk (σ'.set i none) H', ct := fun σ' H' => D.ct (σ'.set i none) H' } (σ.set i (some (.ref a))) H) ∧ (b = false → Wout cls d σ H)
section
variable {X : Cx} {x n : Str} {c : Value} {i : Nat} {body suite : List Stmt} {b0 : Stmt} {np pos pos' : Pos} {tb : L2.WX → TS} {ts : Addr → Value → Option Addr → TS} {Wout : L2.WX}
open L2N in
theorem run_keep (hs : X.stack = X.env :: X.outer) (hf : X.env.frame = some X.env.locals) (hN : X.N.Nodup) (hi : X.N[i]? = some n) (hln : X.env.kindOf n = some .local) (hc : L2.Names X x c) (tk : L2N.Takes X Wout)
    (hb : ∀ (W : L2.WX) (pn : List (Addr × Obj)) (xe : Value → Shared → Prop), L2N.Takes (X.tr pn xe) W → PassesOwn (model X.prog X.w) X.A X.env xe → PSs (X.tr pn xe) body (tb W))
    (hsu : ∀ (a : Addr) (oe : Obj) (cls : Value) (d : Option Addr) (pn : List (Addr × Obj)), L2N.Zn cls d oe → (∃ vs, oe.data = .fields vs) → PSs (X.suite a ((a, oe) :: pn)) (b0 :: suite) (ts a cls d))
    {pins : List (Addr × Obj)} {s : Shared} {σ : L2.St} {H : Hp} {D : Ends} {n0 : L2.St → Hp → Prop} {n1 : Addr → Value → Option Addr → L2.St → Hp → Prop} (I : Inv X pins σ H s) (h : tb (wK X.K c i ts Wout D n1) { D with nx := n0 } σ H) :
    wpAny (model X.prog X.w) X.A (exec (.Try body [.ExceptHandler (some (.Name x np)) (some n) (b0 :: suite) pos'] [] [] pos) X.env) (SPK X pins D n0 n1) X.xe s := by
  have ok := I.ok
  have hfr : X.A.frames = some (X.env :: X.outer) := by rw [ok.frames, hs]
  have hloc : L2.Loc X.env.scope n := .inl hln
  refine wpAny_Try_except ?_
  refine wpAny_mono ((hb (wK X.K c i ts Wout D n1) (X.pn ++ pins) (fun e s₁ => wpAny (model X.prog X.w) X.A (noteFrame e X.env) (fun _ s₂ => wpAny (model X.prog X.w) X.A (setFlight e none) (fun _ s₃ =>
    wpAny (model X.prog X.w) X.A (handleBy e X.env [.ExceptHandler (some (.Name x np)) (some n) (b0 :: suite) pos']) (SPK X pins D n0 n1) X.xe s₃) X.xe s₂) X.xe s₁) (fun u s' xx => ?_) PassesOwn.looking).run [] s σ H { D with nx := n0 } (I.toTry _) h) (fun f s1 hsp => ?_) (fun e s1 he => he)
  · obtain ⟨a, B, sI, pins', σ', H', cls, d, rfl, J', nb, up, sky, na, os, ag, b, hb1, hyes, hno⟩ := xx
    have J : Inv X pins σ' H' sI := J'.ofTry ok
    have sky' : Sky B (X.env :: X.outer) a (Zn cls d) X.env.locals s'.heap := by rw [← hs]; exact sky
    show wpAny (model X.prog X.w) X.A (noteFrame (.ref a) X.env) _ _ _
    refine Sky.land Zn.steady hfr hf sky' fun h3 fl3 up3 => ?_
    have J3 : Inv X pins σ' H' { s' with heap := h3 } := J.landed nb fl3.1 (up.trans up3) os ag
    obtain ⟨oe3, vs3, he3, hz3, hd3⟩ := fl3.there
    have nfr : a ∉ frs (X.env :: X.outer) := fun hm => by
      obtain ⟨_, o', e', hnf⟩ := fl3.2.2.1.mem hm
      rw [he3] at e'; cases e'
      exact hnf _ hd3
    have nL : a ≠ X.env.locals := fun z => nfr (List.mem_filterMap.mpr ⟨X.env, List.mem_cons_self, by rw [hf, z]⟩)
    have nF : a ∉ X.fs := fun hm => by
      obtain ⟨e, he, q⟩ := List.mem_filterMap.mp hm
      exact nfr (List.mem_filterMap.mpr ⟨e, List.mem_cons_of_mem _ he, q⟩)
    have S3 := J3.suite he3 hd3 na nL nF
    refine wpAny_handleBy_cons (codeAny_handlers_test ?_) (by intro q; cases q)
    have LT : PySem.W.Looks (model X.prog X.w) h3 (typeOf (.ref a)) cls := fun A Q E s k q => wpAny_typeOf_ref (k _ _ he3) (by rw [hz3.1]; exact q)
    have LM := PySem.W.exm_one (M := model X.prog X.w) (J3.kIn) LT hb1
    have test : ∀ {Q : Value → Shared → Prop} {E : Value → Shared → Prop}, Q c { s' with heap := h3 } → wpAny (model X.prog X.w) (X.A.mark (some (.ref a))) (eval (.Name x np) X.env) Q E { s' with heap := h3 } := fun {Q E} q => by
      obtain ⟨hg, hdbg, hm | ⟨hm, hv, hnn⟩⟩ := hc
      · exact ld_glob (X := X.suite a ((a, oe3) :: (X.pn ++ pins))) S3 hg hm q hdbg
      · exact ld_blt (X := X.suite a ((a, oe3) :: (X.pn ++ pins))) S3 hg hm hv q hnn hdbg
    refine test (LM.here ?_)
    cases b with
    | true =>
      refine codeAny_handlers_suite_as ?_
      refine HandSPX.lands_againZ fl3 fun h4 fl4 up4 => ?_
      have J4 : Inv X pins σ' H' { s' with heap := h4 } := J.landed nb fl4.1 ((up.trans up3).trans up4) os ag
      obtain ⟨oe4, vs4, he4, hz4, hd4⟩ := fl4.there
      have S4 := J4.suite he4 hd4 na nL nF
      refine store_ok (X := X.suite a ((a, oe4) :: (X.pn ++ pins))) (v := .ref a) S4 hN hi hloc rfl (fun s5 S5 => ?_) (.inr hln)
      refine wpAny_mono ((hsu a oe4 cls d (X.pn ++ pins) hz4 ⟨_, hd4⟩).run [] s5 _ H' _ S5 (hyes rfl a na)) (fun f s6 hsp => ?_) (fun _ _ z => False.elim z)
      have end_ : ∀ {σ6 : L2.St} {H6 : Hp} {Q : Shared → Prop}, Inv (X.suite a ((a, oe4) :: (X.pn ++ pins))) [] σ6 H6 s6 → (∀ s7, Inv (kx X a oe4 (X.pn ++ pins)) [] (σ6.set i none) H6 s7 → Q s7) →
          wpAny (model X.prog X.w) X.A (do bindName X.env n .none; unbindBehindTheSuite X.env n pos') (fun _ s7 => Q s7) X.xe s6 := fun {σ6 H6 Q} S6 hq => gone_ok (X := kx X a oe4 (X.pn ++ pins)) (inv_keep S6 ok) hN hi hln hq
      cases f with
      | next =>
        obtain ⟨σ6, H6, S6, q6⟩ := hsp
        exact end_ S6 fun s7 J7 => .inr ⟨a, oe4, cls, d, _, _, hz4, ⟨_, hd4⟩, J7, q6⟩
      | brk =>
        obtain ⟨σ6, H6, S6, q6⟩ := hsp
        exact end_ S6 fun s7 J7 => ⟨_, _, inv_drop J7 ok, q6⟩
      | cont =>
        obtain ⟨σ6, H6, S6, q6⟩ := hsp
        exact end_ S6 fun s7 J7 => ⟨_, _, inv_drop J7 ok, q6⟩
      | ret u =>
        obtain ⟨v6, σ6, H6, S6, r6, q6⟩ := hsp
        exact end_ S6 fun s7 J7 => ⟨_, _, _, inv_drop J7 ok, r6, q6⟩
    | false =>
      show wpAny _ X.A (handleBy (.ref a) X.env []) _ _ _
      refine wpAny_handleBy_nil ?_
      obtain ⟨k1, k2, k3, oe, vs, T, oT, ts', he, hz, hd, h1, hr⟩ := id fl3
      unfold PySem.passOn
      refine wpAny_bind (wpAny_field he hd h1 ?_)
      rw [if_neg (show ¬ ((Value.ref T == Value.none) = true) from by simp)]
      have fin : wpAny (model X.prog X.w) X.A (setFlight (.ref a) X.env.frame) (fun _ s4 => wpAny (model X.prog X.w) X.A (throw (.ref a) : Sem Flow) (SPK X pins D n0 n1) X.xe s4) X.xe { s' with heap := h3 } := by
        rw [hf]
        refine HandSPX.setFlight_upZ fl3 fun h4 hh4 up4 => wpAny_throw (tk _ _ ?_)
        exact ⟨a, B, sI, pins, σ', H', cls, d, rfl, J, nb, (up.trans up3).trans up4, .inr (.inr (by rw [hs]; exact hh4)), na, os, ag, hno rfl⟩
      first
        | exact wpAny_bind (wpAny_pure (wpAny_bind fin))
        | exact wpAny_bind fin
  · cases f with
    | next =>
      obtain ⟨σ', H', J', q⟩ := hsp
      exact wpAny_execs_nil (.inl ⟨σ', H', J'.ofTry ok, q⟩)
    | brk =>
      obtain ⟨σ', H', J', q⟩ := hsp
      exact ⟨σ', H', J'.ofTry ok, q⟩
    | cont =>
      obtain ⟨σ', H', J', q⟩ := hsp
      exact ⟨σ', H', J'.ofTry ok, q⟩
    | ret u =>
      obtain ⟨v, σ', H', J', r, q⟩ := hsp
      exact ⟨v, σ', H', J'.ofTry ok, r, q⟩
end
/-- a try and what stands behind it -/
def tTryK (K : PySem.W.Frag) (c : Value) (i : Nat) (ts : Addr → Value → Option Addr → TS) (Wout : L2.WX) (tb : L2.WX → TS) (u0 : TS) (u1 : Addr → Value → Option Addr → TS) : TS := fun D σ H => tb (wK K c i ts Wout D fun a cls d => u1 a cls d D) { D with nx := u0 D } σ H
section
variable {Γ : Gm} {X : Cx} {x n : Str} {C : Addr} {i : Nat} {body suite rest : List Stmt} {b0 : Stmt} {np p1 pos : Pos} {tb : L2.WX → TS} {ts u1 : Addr → Value → Option Addr → TS} {u0 : TS} {Wout : L2.WX}
theorem pss_tryK (g : Good Γ X) (hs : X.stack = X.env :: X.outer) (hf : X.env.frame = some X.env.locals) (nd : X.N.Nodup) (hl : llB X.N X.env.scope i n = true) (hm : Γ.mg x = some (.ref C)) (hg : gvB X.env.scope x = true) (tk : L2N.Takes X Wout)
    (hb : ∀ (W : L2.WX) (pn : List (Addr × Obj)) (xe : Value → Shared → Prop), L2N.Takes (X.tr pn xe) W → PassesOwn (model X.prog X.w) X.A X.env xe → PSs (X.tr pn xe) body (tb W))
    (hsu : ∀ (a : Addr) (oe : Obj) (cls : Value) (d : Option Addr) (pn : List (Addr × Obj)), L2N.Zn cls d oe → (∃ vs, oe.data = .fields vs) → PSs (X.suite a ((a, oe) :: pn)) (b0 :: suite) (ts a cls d))
    (h0 : PSs X rest u0) (h1 : ∀ (a : Addr) (oe : Obj) (cls : Value) (d : Option Addr) (pn : List (Addr × Obj)), L2N.Zn cls d oe → (∃ vs, oe.data = .fields vs) → PSs (kx X a oe pn) rest (u1 a cls d)) :
    PSs X (.Try body [.ExceptHandler (some (.Name x np)) (some n) (b0 :: suite) p1] [] [] pos :: rest) (tTryK Γ.K (.ref C) i ts Wout tb u0 u1) := by
  unfold llB at hl
  simp only [Bool.and_eq_true, decide_eq_true_eq, beq_iff_eq] at hl
  refine ⟨fun pins s σ H D I h => ?_⟩
  rw [← g.K] at h
  refine wpAny_execs_cons (thn (run_keep hs hf nd hl.1 hl.2 (names_of g hm hg) tk hb hsu (n0 := u0 D) (n1 := fun a cls d => u1 a cls d D) I h) fun f s1 q => ?_)
  cases f with
  | next =>
    rcases q with ⟨σ', H', J, q⟩ | ⟨a, oe, cls, d, σ', H', hz, hd, J, q⟩
    · exact h0.run pins s1 σ' H' D J q
    · exact thn ((h1 a oe cls d (X.pn ++ pins) hz hd).run [] s1 σ' H' D J q) fun f s2 r => sp_drop I.ok r
  | brk => exact q
  | cont => exact q
  | ret u => exact q
end
section
variable {X : Cx} {K : PySem.W.Frag} {a : Addr} {cls : Value} {d : Option Addr} {oe : Obj} {pn : List (Addr × Obj)}
/-- the kept error is asked for its class -/
theorem call_isK (hK : X.K = K) (hz : L2N.Zn cls d oe) (hf : ∃ vs, oe.data = .fields vs) : CallR (kx X a oe pn) (.builtin "isinstance") (rIsN K cls d a) := by
  subst hK
  intro pins s σ H xs us Q I r h
  obtain ⟨D, dd, fs, c, cv, b, rfl, rfl, rfl, ea, C, hcv, e, q⟩ := h
  cases r with
  | cons rx rr =>
    cases rr with
    | cons rt rr =>
      cases rr
      cases rx
      obtain ⟨ha, _⟩ := I.pin (a, oe) (List.mem_append.mpr (.inl List.mem_cons_self))
      obtain ⟨vs, hd⟩ := hf
      obtain ⟨mA, hns, hr⟩ := (I.hok dd _ ea : ObjOk X.prog X.w H s.heap dd (.xd fs))
      obtain ⟨od, ho, hl⟩ := lookIn_ns hns
      have J : PySem.W.InstAt s.heap a oe D (some od) := ⟨ha, hz.1, by unfold PySem.W.notCls; rw [hd] <;> rfl, by rw [hz.2.1]; exact ho⟩
      obtain ⟨cd, hc, _⟩ := PySem.W.any_some C.hd
      have ec := hcv.eq rt
      subst ec
      exact PySem.W.kia_one (PySem.W.kitx_exc (by rw [hc]; rfl) C.hg C.hk C.hs C.ha C.hn C.ht C.hm) I.kIn J e (fun z => nomatch z) fun tk => ⟨.bl b, H, I.kept (t' := tk) fun _ _ z => z, rfl, q⟩
variable {Γ : Gm} {x n : Str} {C : Addr} {k m : Nat} {fs : List V → List (Str × V)} {ns : List Str} {pos : Pos} {e : Expr} {te : TE}
/-- .. for an attribute -/
theorem pe_xfK (T : ErrK Γ k x C m fs ns) (hK : X.K = Γ.K) (hn : n ∈ ns) (hz : L2N.Zn cls d oe) (hf : ∃ vs, oe.data = .fields vs) (he : PE (kx X a oe pn) e te)
    (hb : attributeBase e n X.env (eval e X.env) = eval e X.env := by rfl) : PE (kx X a oe pn) (.Attribute e n pos) (tXf a cls d C n te) := by
  have xf : XfC X.K C := by rw [hK]; exact T.xf
  have hno : PySem.W.findIn X.K (.ref C) n = some none := by rw [hK]; exact T.no n hn
  refine ⟨fun pins s σ H Q I h => ?_⟩
  refine attr_of hb (thn (he.run pins s σ H _ I h) fun u s1 hh => ?_)
  obtain ⟨y, H1, I1, ry, rfl, rfl, dd, fl, v, rfl, ea, l, q⟩ := hh
  obtain rfl : u = Value.ref a := ry
  obtain ⟨ha, _⟩ := I1.pin (a, oe) (List.mem_append_left _ List.mem_cons_self)
  obtain ⟨vs, hd⟩ := hf
  obtain ⟨mA, hns, hr⟩ := (I1.hok dd _ ea : ObjOk X.prog X.w H1 s1.heap dd (.xd fl))
  obtain ⟨od, ho, hl⟩ := lookIn_ns hns
  obtain ⟨w, hu, ru⟩ := RelO.some_of (v := v) (o := mA n) (by rw [← l]; exact hr n)
  have J : PySem.W.InstAt s1.heap a oe C (some od) := ⟨ha, hz.1, by unfold PySem.W.notCls; rw [hd] <;> rfl, by rw [hz.2.1]; exact ho⟩
  exact HandSPX.exc_get I1.kIn J xf.ga xf.gg xf.exC (PySem.W.findObj_own xf.hdC hno rfl (by rw [hl, hu])) (handed_of ru) ⟨v, H1, I1.tok _, ru, q⟩
end
end G
/-! enumerate of a text -/
namespace G
open PySem PySem.Spec PyProof.Rows L2
def IteS (x : Str) : It := ⟨fun i _ => i < x.cps.size, fun i H v H' => ∃ T c, v = .ref T ∧ H T = none ∧ H' = L2.upd H T (.tup [.int (i : Nat), .str ⟨#[c]⟩]) ∧ x.cps[i]? = some c, fun i _ => i = x.cps.size⟩
theorem drawS {prog : Program} {w : World} {A : Around} (hh : A.handled = none) (it : Addr) (x : Str) (t : Tok) {ty : String} (hty : ty = "str_ascii_iterator" ∨ ty = "str_iterator") :
    Draws prog w A it [it] x.cps.size (fun i v => ∃ c u, x.cps[i]? = some c ∧ v = .str ⟨#[c]⟩ u) (fun i h => h.IsStrIter it ty x t i) := by
  rcases hty with rfl | rfl
  · exact .strAscii hh it x t
  · exact .strWide hh it x t
theorem turn_enumS {P : Program} {w : World} {K : PySem.W.Frag} {elts : List Expr} {kk : Nat} {tpos : Pos} (x : Str) (t : Tok) (e it : Addr) {ty : String} (hty : ty = "str_ascii_iterator" ∨ ty = "str_iterator") :
    Turn P w K (.Tuple elts kk tpos) (IteS x) [e, it] e (fun i h => (∃ old, IsEnum h e it ((i : Nat) : Int) old) ∧ h.IsStrIter it ty x t i ∧ e ≠ it) where
  mem := by simp
  obj := fun i h st b hb => by
    obtain ⟨⟨old, he⟩, ⟨o, ho, hc, hd⟩, _⟩ := st
    have e' : b = e ∨ b = it := by simpa using hb
    rcases e' with z | z
    · rw [z]; exact ⟨_, he, fun v q => nomatch q⟩
    · rw [z]; exact ⟨o, ho, fun v q => by rw [hd] at q; cases q⟩
  keep := fun i h h' st k => let ⟨⟨old, he⟩, ⟨o, ho, r⟩, hne⟩ := st; ⟨⟨old, k e (by simp) _ he⟩, ⟨o, k it (by simp) _ ho, r⟩, hne⟩
  item := by
    intro X hP hw hK hc i pins s σ H E I hf st hg
    subst hP hw hK
    obtain ⟨⟨old, he⟩, hit, hne⟩ := st
    have hel : e < s.heap.objs.size := Heap.lt_size he
    have hil : it < s.heap.objs.size := by obtain ⟨_, q, _⟩ := id hit; exact Heap.lt_size q
    refine wpAny_pyNext_enum_itemD (drawS (A := X.A.in1) (I.ok.hd hc) it x t hty) he hit hg hne (by simpa using hne) fun v h' tk hP ho hit' hT hsz hk => ?_
    obtain ⟨c, u, hcx, rfl⟩ := hP
    refine ⟨_, rfl, wpAny_letOwnedTupleGo_enum (s := { s with heap := h', toks := tk + 1 }) ho fun h'' he' sb => ?_⟩
    have hT2 : h''.get? s.heap.objs.size = some { cls := .type "tuple", data := .seq #[.int i tk, .str ⟨#[c]⟩ u] } := (sb.2 _ (Nat.ne_of_gt hel)).trans hT
    have new : ObjOk X.prog X.w (L2.upd H s.heap.objs.size (.tup [.int (i : Nat), .str ⟨#[c]⟩])) h'' s.heap.objs.size (.tup [.int (i : Nat), .str ⟨#[c]⟩]) :=
      ⟨by show 2 ≤ sizeLine; decide, [.int i tk, .str ⟨#[c]⟩ u], .cons ⟨_, rfl⟩ (.cons ⟨_, rfl⟩ .nil), ⟨_, hT2, rfl, _, rfl⟩⟩
    have I1 : Inv X pins σ (L2.upd H s.heap.objs.size (.tup [.int (i : Nat), .str ⟨#[c]⟩])) { s with heap := h'', toks := tk + 1 } :=
      I.turnedNew (ch := [e, it]) (fun b ob hb q => (sb.2 b (fun z => hb (by simp [z]))).trans (hk b ob (fun z => hb (by simp [z])) (fun z => hb (by simp [z])) q)) hf (Nat.le_refl _) new
    refine ⟨.ref s.heap.objs.size, _, I1, rfl, ⟨_, c, rfl, I.hok.fresh (Nat.le_refl _), rfl, hcx⟩, ⟨⟨.str ⟨#[c]⟩ u, ?_⟩, ?_, hne⟩, fun b hb => ?_⟩
    · have e1 : ((i + 1 : Nat) : Int) = (i : Int) + 1 := by omega
      rw [e1]; exact he'
    · obtain ⟨o, ho2, r⟩ := hit'
      exact ⟨o, (sb.2 it (Ne.symm hne)).trans ho2, r⟩
    · have hb' : b < s.heap.objs.size := by
        have e' : b = e ∨ b = it := by simpa using hb
        rcases e' with z | z
        · rw [z]; exact hel
        · rw [z]; exact hil
      rw [upd_ne (Nat.ne_of_lt hb')]
      exact (hf b hb).1
  done := by
    intro X hP hw hK hc i pins s σ H E I hf st hg
    subst hP hw hK
    obtain ⟨⟨old, he⟩, hit, hne⟩ := st
    obtain ⟨f0, f1, f2, f3, f4, f5⟩ := hf it (by simp)
    have hi : i = x.cps.size := hg
    subst hi
    exact wpAny_pyNext_enum_endD (drawS (A := X.A.in1) (I.ok.hd hc) it x t hty) he hit fun h' eb => ⟨rfl, I.turned (t' := s.toks) (fun b o hb q => eb b o hb q) f0 f1 f3 f4 f5⟩
  self := fun A i s Q E st h => let ⟨⟨_, he⟩, _⟩ := st; wpAny_pyIter_enum he h
def iEnumS (ta : TA) : TI := fun σ H R => ta σ H fun vs H1 => ∃ x, vs = [.str x] ∧ R (IteS x) H1
theorem pi_enumS {X : Cx} {e : Expr} {ta : TA} {p pos tpos : Pos} {elts : List Expr} {kk : Nat} (hg : gvB X.env.scope "enumerate" = true) (hm : X.mg "enumerate" = none) (ha : PA X [e] ta) (hs : starEach [e] X.env = [(false, eval e X.env)] := by rfl) :
    PI X (.Tuple elts kk tpos) (.Call (.Name "enumerate" p) [e] [] pos) (iEnumS ta) := by
  refine ⟨fun pins s σ H R I h => ?_⟩
  refine Call_ (ld_blt I (gv_of hg).1 hm boot_enumerate (PyProof.Rows.callWith_type1 (thn (ha.run pos pins s σ H _ I h) fun us s1 ⟨vs, H1, I1, r1, q1⟩ => ?_) hs rfl))
  obtain ⟨x, ex, q⟩ := q1
  subst ex
  cases r1 with
  | cons r rr =>
    cases rr
    obtain ⟨t, rfl⟩ := r
    have hty : strIterType x = "str_ascii_iterator" ∨ strIterType x = "str_iterator" := by unfold strIterType; split <;> simp
    refine call_enumerate_str fun h' he hit hsz hk => wpAny_pyIter_enum he ?_
    have I2 : Inv X pins σ H1 { s1 with heap := h' } := I1.kept (t' := s1.toks) hk
    refine ⟨s1.heap.objs.size + 1, [s1.heap.objs.size + 1, s1.heap.objs.size], _, _, H1, rfl, I2, turn_enumS x t (s1.heap.objs.size + 1) s1.heap.objs.size hty, ⟨⟨.none, he⟩, hit, Nat.succ_ne_self _⟩, fun b hb => ?_, q⟩
    have e' : b = s1.heap.objs.size + 1 ∨ b = s1.heap.objs.size := by simpa using hb
    have hle : s1.heap.objs.size ≤ b := by
      rcases e' with z | z
      · rw [z]; exact Nat.le_add_right _ _
      · rw [z]; exact Nat.le_refl _
    exact I1.fpOk hle (I1.hok.fresh hle)
/-- a walk over a text, its signs counted -/
theorem walk_enumS {z : Str} : Walk (IteS z) z.cps.size (fun _ => True) (YPair (fun i => some (.int (i : Nat))) (fun i => z.cps[i]?.map fun c => .str ⟨#[c]⟩)) := by
  refine ⟨fun _ _ hi _ => hi, fun _ _ => rfl, fun i H v H' _ _ y => ?_⟩
  obtain ⟨T, c, h1, h2, h3, h4⟩ := y
  exact ⟨T, .int (i : Nat), .str ⟨#[c]⟩, h1, h2, h3, rfl, by simp [h4]⟩
/-- a sign not within a text -/
theorem wo_nin1 {Γ : Gm} {H : Hp} {Q : VK} {z : Str} {c : Nat} (q : Q (.bl (!decide (c ∈ z.cps.toList))) H) : WO Γ (compareOp .NotIn) (.str ⟨#[c]⟩) (.str z) H Q :=
  ⟨_, fun X g => op_notin_str, _, _, rfl, rfl, by
    have h := StrLaws.found_one z c
    rw [show (!(Builtin.Str.occurrences z ⟨#[c]⟩ 0 z.length 1).isEmpty) = decide (c ∈ z.cps.toList) from h]
    exact q⟩
end G

local macro_rules | `(tactic| walk_at "mem") => `(tactic| first | with_reducible exact List.mem_cons_self | with_reducible exact List.Mem.head _ | (apply List.Mem.tail; walk_at "mem") | assumption)
local macro_rules | `(tactic| walk_at "pick") => `(tactic| first | exact G.Pick.here | (apply G.Pick.next; walk_at "pick") | assumption)
local macro_rules | `(tactic| walk_at "subl") => `(tactic| first | exact List.Sublist.slnil | exact List.Sublist.refl _ | (apply List.Sublist.cons_cons; walk_at "subl") | (apply List.Sublist.cons; walk_at "subl"))
local macro_rules | `(tactic| walk_at "mems") => `(tactic| first | exact G.sub_nil | (refine G.sub_cons ?_ ?_; (focus walk_at "mem"); walk_at "mems"))
local macro_rules | `(tactic| walk_at "cell") => `(tactic| first | assumption | exact L2.upd_same)
local macro_rules | `(tactic| walk_at "sq") => `(tactic| first | assumption | exact L2.SqL.of (by walk_at "cell") | exact L2.SqL.of (G.SS.cell (by assumption) (by walk_at "mem")) | exact G.SS.seq (by assumption) (by walk_at "mem"))
local macro_rules | `(tactic| walk_at "dn") => `(tactic| try dsimp only [L2.tSeq, G.tMw, G.tMwX, G.tCallIX, G.tCallX, G.tErr, G.tRz, G.tTryA, L2.tXf, L2.tMake, L2.sFld, L2.tDrop, StX.tStar, G.tMk, L2.tAug, L2.tNever, L2.tCallN, L2.tAsg, L2.tOp, L2.tUn, L2.tC, L2.tCB, L2.tCons, L2.tNil, L2.tRet, L2.tRetN, L2.gName, L2.gSub, L2.tNext, L2.tDrop, L2.tCall, L2.tTup, L2.tLst, L2.tNot, L2.tBM, L2.tBM0, L2.tM1,
  L2.tSl, L2.tNoPart, L2.iRng1, L2.iRng2, L2.iList, L2.iTup, L2.iStr, L2.iEnum, C8.tCut, G.tFor_eq, G.tLc_eq,  L2.tBreak, L2.tCont, L2.tYes, G.tS, G.tT, G.tCh, G.tIfB, G.tIfSB, G.tAndB, G.tOrB, G.tTr, G.tOrB2, G.tAndB2, G.tNotB, G.tP2, G.tP3, G.tPt,
  G.oAdd_1, G.oAdd_2, G.oSub_1, G.oMul_1, G.oDiv_1, G.oMod_1, G.oPow_1, G.oLt_1, G.oLe_1, G.oGt_1, G.oGe_1, G.oEq_1, G.oEq_2, G.oEq_3, G.oEq_4, G.oEq_5, G.oEq_6, G.oEq_7, G.oEq_8, G.oEq_9, G.oEq_10, G.oNe_1, G.oNe_2, G.oNe_3, G.oNe_4, G.oNe_5, G.oNe_6, G.oNe_7, G.oNe_8, G.oNe_9, G.oNe_10, G.oIs_1, G.oIsNot_1, G.uNeg_1, G.cInt_1, G.cInt_2, G.cAbs_1, G.cMin_1, G.cMax_1, G.cLen_1, G.sl_0, G.sl_s, G.gN_1, G.gC_1, G.asB_1, G.asI_1, G.br_1, G.br_2, G.two_1, G.three_1, G.tru_1, G.tru_2, G.tru_3, G.tru_4, G.isN_1, G.isN_2, G.isN_3, G.isN_4, G.isN_5, L2.wipe, List.map_cons, List.map_nil, G.nb_1, G.nb_2, List.set_cons_zero, List.set_cons_succ, List.append_nil, List.nil_append, List.cons_append])
local macro_rules | `(tactic| walk_at "di") => `(tactic| try dsimp only [G.oAdd_1, G.oAdd_2, G.oSub_1, G.oMul_1, G.oDiv_1, G.oMod_1, G.oPow_1, G.oLt_1, G.oLe_1, G.oGt_1, G.oGe_1, G.oEq_1, G.oEq_2, G.oEq_3, G.oEq_4, G.oEq_5, G.oEq_6, G.oEq_7, G.oEq_8, G.oEq_9, G.oEq_10, G.oNe_1, G.oNe_2, G.oNe_3, G.oNe_4, G.oNe_5, G.oNe_6, G.oNe_7, G.oNe_8, G.oNe_9, G.oNe_10, G.oIs_1, G.oIsNot_1, G.uNeg_1, G.cInt_1, G.cInt_2, G.cAbs_1, G.cMin_1, G.cMax_1, G.cLen_1, G.sl_0, G.sl_s, G.gN_1, G.gC_1, G.asB_1, G.asI_1, G.br_1, G.br_2, G.two_1, G.three_1, G.tru_1, G.tru_2, G.tru_3, G.tru_4, G.isN_1, G.isN_2, G.isN_3, G.isN_4, G.isN_5, L2.wipe, List.map_cons, List.map_nil, G.nb_1, G.nb_2, List.set_cons_zero, List.set_cons_succ, List.append_nil, List.nil_append, List.cons_append])
local macro_rules | `(tactic| walk_at "h1") => `(tactic| first
  | with_reducible refine G.wx_l (by walk_at "sq") (by with_unfolding_all exact rfl) ?_
  | with_reducible refine G.wp_l (by walk_at "cell") (by with_unfolding_all exact rfl) ?_
  | ((with_reducible refine And.intro ?_ ?_); focus (first | assumption | omega | exact ⟨by omega, by omega⟩ | exact Or.inl ⟨by omega, by omega⟩ | exact Or.inr ⟨by omega, by omega⟩ | decide | exact G.szl (by simp only [List.length_cons, List.length_nil]; omega))))
local macro_rules | `(tactic| walk_at "go") => `(tactic| (walk_at "di"; repeat (walk_at "h1"; walk_at "di")))
local macro_rules | `(tactic| walk_at "dd") => `(tactic| (try dsimp only [L2.tDGet1, L2.tDPop1, G.tMkS, L2.tDrop, L2.tLstRg, L2.tRg1, L2.tRevL, G.tS, L2.tOp, L2.tUn, L2.tCons, L2.tNil]); walk_at "di")
local macro_rules | `(tactic| walk_at "dc") => `(tactic| ((try dsimp only [G.tCallI]); walk_at "dn"))
namespace K
open PySem PySem.Spec PyProof.Rows L2 G
def spTake : Sp := fun vs H Q _ => ∃ (b : Addr) (m : Int) (n : Nat), vs = [.ref b, .int m] ∧ 0 < m ∧ m < 2 ^ 30 ∧ Box b (n + 1) H ∧ ∀ (r : Int) H', 0 ≤ r → r < m → Fr [b] H H' → Box b n H' → Q (.int r) H'
def spBox (K : PySem.W.Frag) : Sp := fun vs H Q _ => ∃ (l : Addr) (ns : List Int) (k : Nat), vs = [.ref l, .int k] ∧ SqL K H l (ns.map V.int) ∧ k < ns.length ∧ k ≤ 100 ∧ ∀ p H', H p = none → Same H H' → Box p (2 ^ 39) H' → Q (.ref p) H'
def spCells (K : PySem.W.Frag) : Sp := fun vs H Q _ => ∃ (l : Addr) (ns : List Int) (m : Nat), vs = [.ref l, .int m] ∧ SqL K H l (ns.map V.int) ∧ ns.length ≤ 63 ∧ 1 ≤ m ∧ m ≤ 3 ∧
  ∀ p H' (ks : List Int), H p = none → Same H H' → H' p = some (.lst (ks.map V.int)) → 1 ≤ ks.length → ks.length ≤ m → Q (.ref p) H'
/-- an item of a list or a tuple, a sign of a text -/
def spOf (K : PySem.W.Frag) : Sp := fun vs H Q _ => ∃ (b : Addr) (g : V) (n : Nat), vs = [.ref b, g] ∧ Box b (n + 1) H ∧
  ((∃ (l : Addr) (xs : List V), g = .ref l ∧ l ≠ b ∧ SqL K H l xs ∧ 0 < xs.length ∧ xs.length < 1000000 ∧ ∀ v ∈ xs, ∀ H', Fr [b] H H' → Box b n H' → Q v H') ∨
   (∃ (z : Str), g = .str z ∧ 0 < z.length ∧ z.length < 1000000 ∧ ∀ c ∈ z.cps.toList, ∀ H', Fr [b] H H' → Box b n H' → Q (.str ⟨#[c]⟩) H'))
/-- some of the goods, each once -/
def spPick (K : PySem.W.Frag) : Sp := fun vs H Q _ => ∃ (b : Addr) (g : V) (gs : List V) (n m : Nat), vs = [.ref b, g, .int m] ∧ Box b (n + m) H ∧ gs.length < 100000 ∧
  ((∃ l, g = .ref l ∧ SqL K H l gs) ∨ ∃ z, g = .str z ∧ gs = sgs z) ∧
  ∀ p xs H', H p = none → Fr [b] H H' → Box b n H' → H' p = some (.lst xs) → (∃ r, (xs ++ r).Perm gs) → xs.length = min m gs.length → Q (.ref p) H'
abbrev E0v (K : PySem.W.Frag) : Hv := ⟨K, fun _ => False⟩
/-- a NAME -/
def Nm (z : Str) : Prop := 1 ≤ z.length ∧ z.length ≤ 8 ∧ ∀ c ∈ z.cps.toList, 97 ≤ c ∧ c ≤ 122
theorem Nm.ok {z : Str} (h : Nm z) : PyData.strOk z = true := by
  unfold PyData.strOk
  rw [← Array.all_toList, List.all_eq_true]
  intro c hc
  have := (h.2.2 c hc).2
  exact decide_eq_true (by omega)
def LETS : Str := "abcdefghijklmnopqrstuvwxyz"
/-- names, unlike one another -/
def spNms (K : PySem.W.Frag) : Sp := fun vs H Q _ => ∃ (b : Addr) (n m : Nat), vs = [.ref b, .int m] ∧ Box b (n + 500) H ∧ m ≤ 26 ∧
  ∀ p (zs : List Str) H', H p = none → Fr [b] H H' → Box b n H' → H' p = some (.lst (zs.map V.str)) → zs.length = m → zs.Nodup → (∀ z ∈ zs, Nm z) → Q (.ref p) H'
def topS (i : Nat) : Stmt := PySem.Challenge.pw_linelooks_k48_texts_that_are_wrong.main.body.getD i (.Pass ⟨0, 0, 0, 0⟩)
structure Names (Γ : Gm) : Prop where
  n_ValueError : Γ.mg "ValueError" = none
  n_abs : Γ.mg "abs" = none
  n_all : Γ.mg "all" = none
  n_any : Γ.mg "any" = none
  n_bool : Γ.mg "bool" = none
  n_chr : Γ.mg "chr" = none
  n_dict : Γ.mg "dict" = none
  n_enumerate : Γ.mg "enumerate" = none
  n_int : Γ.mg "int" = none
  n_isinstance : Γ.mg "isinstance" = none
  n_len : Γ.mg "len" = none
  n_list : Γ.mg "list" = none
  n_max : Γ.mg "max" = none
  n_min : Γ.mg "min" = none
  n_ord : Γ.mg "ord" = none
  n_range : Γ.mg "range" = none
  n_reversed : Γ.mg "reversed" = none
  n_set : Γ.mg "set" = none
  n_sorted : Γ.mg "sorted" = none
  n_str : Γ.mg "str" = none
  n_sum : Γ.mg "sum" = none
  n_tuple : Γ.mg "tuple" = none
  n_zip : Γ.mg "zip" = none
abbrev s_E_BadText : Stmt := inClass (topS 6) 0
abbrev n_E_BadText : List Str := ["self", "at"]
theorem sc_E_BadText : FnScope n_E_BadText ["self", "at"] (defScope s_E_BadText) := ⟨rfl, rfl, rfl, by decide +kernel, rfl, by decide +kernel, by decide +kernel⟩
theorem nm_E_BadText : nvB n_E_BadText (defScope s_E_BadText) 0 "self" = true ∧ nvB n_E_BadText (defScope s_E_BadText) 1 "at" = true := by decide +kernel
theorem cl_E_BadText {Γ : Gm} {C f : Addr} {fd : FuncData} (dfn : L2.Fun Γ.K "__init__" "BadText.__init__" s_E_BadText f fd) (T : Names Γ) (O : OexC Γ.K C) (O2 : ∀ f ∈ (["at"] : List Str), PySem.W.findIn Γ.K (.ref C) f = some none) : FnOk Γ.P Γ.w Γ.K Γ.mg Γ.base CX0 (1) f fd ["self", "at"] (spErr C 1 (fsD ["at"])) := by
  refine fun_any dfn sc_E_BadText (fun vs H Q E h => ?_) (fun f cdv A outer s H vs Q E hg h => ?_)
  · obtain ⟨a, ws, rfl, hl, _⟩ := h
    rw [List.length_cons, hl]; rfl
  obtain ⟨a, ws, rfl, hl, ha, q⟩ := h
  obtain ⟨w0, rfl⟩ : ∃ w0, ws = [w0] := by
    match ws, hl with
    | [w0], _ => exact ⟨w0, rfl⟩
  have nd := sc_E_BadText.nd
  obtain ⟨v0, v1⟩ := nm_E_BadText
  refine ⟨_, (pss_one (ps_ost (ps 0 v0) (ps 1 v1))), ?_⟩
  refine st_start (σ := [some _, some _]) rfl ?_
  walk_at "dn"
  refine st_err1 O (O2 _ (by walk_at "mem")) (fun Q q => q) (fun Q q => q) ha fun dx hdx nd => ?_
  exact q dx hdx nd
abbrev s_take : Stmt := topS 35
abbrev n_take : List Str := ["_law_box_here", "_law_below", "_law_some", "_law_once", "_law_far", "_law_again"]
theorem sc_take : FnScope n_take ["_law_box_here", "_law_below"] (defScope s_take) := ⟨rfl, rfl, rfl, by decide +kernel, rfl, by decide +kernel, by decide +kernel⟩
theorem nm_take : nvB n_take (defScope s_take) 0 "_law_box_here" = true ∧ nvB n_take (defScope s_take) 1 "_law_below" = true ∧ nvB n_take (defScope s_take) 2 "_law_some" = true ∧ nvB n_take (defScope s_take) 3 "_law_once" = true ∧ nvB n_take (defScope s_take) 4 "_law_far" = true ∧ nvB n_take (defScope s_take) 5 "_law_again" = true ∧ lvB n_take (defScope s_take) 2 "_law_some" = true ∧ lvB n_take (defScope s_take) 3 "_law_once" = true ∧ lvB n_take (defScope s_take) 4 "_law_far" = true ∧ lvB n_take (defScope s_take) 5 "_law_again" = true ∧ gvB (defScope s_take) "int" = true := by decide +kernel
theorem cl_take {Γ : Gm} (dfn : Dfn Γ "_law_take" s_take ["_law_box_here", "_law_below"]) (T : Names Γ) : Cl Γ CX0 (1) "_law_take" spTake [] := by
  refine dfn.cl sc_take (fun vs H Q E h => ?_) (fun f cdv A outer s H vs Q E hg h => ?_)
  · obtain ⟨b, m, n, rfl, _⟩ := h
    rfl
  obtain ⟨b, m, n, rfl, hm, hm2, ⟨i, j, k, hb, j0, j1, k0, k1⟩, q⟩ := h
  have nd := sc_take.nd
  obtain ⟨v0, v1, v2, v3, v4, v5, l2, l3, l4, l5, g_int⟩ := nm_take
  refine ⟨_, (pss_cons (ps_ifB (pt_cm (k_gt hg) (pe_ix (WX.ok hg) (ps 0 v0) pe_int (fun _ _ => rfl)) pe_int (nomark _))
    (pss_cons (pst (i := 2) nd l2 (pe_op (k_mod hg) (pct (k_int hg) g_int T.n_int bt_int (pa_cons (pe_ix (WX.ok hg) (ps 0 v0) pe_int (fun _ _ => rfl)) pa_nil)) (ps 1 v1)))
    (pss_cons (ps_asg (pe_op (k_div hg) (pe_ix (WX.ok hg) (ps 0 v0) pe_int (fun _ _ => rfl)) (ps 1 v1)) (pg_sub (ps 0 v0) pe_int (WP.ok hg)))
    (pss_one (ps_ret (ps 2 v2)))))
    pss_nil)
    (pss_cons (ps_asg (pe_op (k_add hg) (pe_ix (WX.ok hg) (ps 0 v0) pe_int (fun _ _ => rfl)) pe_int) (pg_sub (ps 0 v0) pe_int (WP.ok hg)))
    (pss_cons (pst (i := 3) nd l3 (pe_op (k_mod hg) (pct (k_int hg) g_int T.n_int bt_int (pa_cons (pe_op (k_mul hg) (pe_op (k_add hg) (pe_ix (WX.ok hg) (ps 0 v0) pe_int (fun _ _ => rfl)) (pe_op (k_mul hg) pe_int (pe_ix (WX.ok hg) (ps 0 v0) pe_int (fun _ _ => rfl)))) (pe_op (k_add hg) pe_int (pe_ix (WX.ok hg) (ps 0 v0) pe_int (fun _ _ => rfl)))) pa_nil)) pe_int))
    (pss_cons (pst (i := 4) nd l4 (pe_op (k_add hg) (pe_op (k_mod hg) (pct (k_int hg) g_int T.n_int bt_int (pa_cons (ps 3 v3) pa_nil)) pe_int) pe_int))
    (pss_cons (pst (i := 5) nd l5 (pe_op (k_mod hg) (pct (k_int hg) g_int T.n_int bt_int (pa_cons (pe_op (k_mul hg) (pe_op (k_add hg) (pe_op (k_add hg) (ps 3 v3) (pe_ix (WX.ok hg) (ps 0 v0) pe_int (fun _ _ => rfl))) (pe_op (k_div hg) (pe_ix (WX.ok hg) (ps 0 v0) pe_int (fun _ _ => rfl)) pe_int)) (ps 4 v4)) pa_nil)) pe_int))
    (pss_one (ps_ret (pe_op (k_mod hg) (pct (k_int hg) g_int T.n_int bt_int (pa_cons (pe_op (k_div hg) (pe_op (k_mod hg) (pct (k_int hg) g_int T.n_int bt_int (pa_cons (pe_op (k_add hg) (pe_op (k_mul hg) (ps 5 v5) pe_int) (ps 3 v3)) pa_nil)) pe_int) pe_int) pa_nil)) (ps 1 v1))))))))), ?_⟩
  refine st_start (σ := [some _, some _, none, none, none, none]) rfl ?_
  walk_at "dn"
  walk_at "go"
  refine br_d (fun h => ?_) (fun h => ?_)
  · walk_at "go"
    exact q _ _ (Int.emod_nonneg _ (by omega)) (Int.emod_lt_of_pos _ hm) (Fr.upd (.head _)) ⟨_, j, k, upd_same, j0, j1, k0, by omega⟩
  · walk_at "go"
    exact q _ _ (Int.emod_nonneg _ (by omega)) (Int.emod_lt_of_pos _ hm) (Fr.upd (.head _)) ⟨_, j, _, upd_same, j0, j1, by omega, by omega⟩
abbrev s_box : Stmt := topS 34
abbrev n_box : List Str := ["_law_script", "_law_k", "_law_cell"]
theorem sc_box : FnScope n_box ["_law_script", "_law_k"] (defScope s_box) := ⟨rfl, rfl, rfl, by decide +kernel, rfl, by decide +kernel, by decide +kernel⟩
theorem nm_box : nvB n_box (defScope s_box) 0 "_law_script" = true ∧ nvB n_box (defScope s_box) 1 "_law_k" = true ∧ nvB n_box (defScope s_box) 2 "_law_cell" = true ∧ lvB n_box (defScope s_box) 2 "_law_cell" = true ∧ gvB (defScope s_box) "abs" = true ∧ gvB (defScope s_box) "int" = true ∧ gvB (defScope s_box) "len" = true := by decide +kernel
theorem cl_box {Γ : Gm} (dfn : Dfn Γ "_law_box" s_box ["_law_script", "_law_k"]) (T : Names Γ) : Cl Γ CX0 (1) "_law_box" (spBox Γ.K) [] := by
  refine dfn.cl sc_box (fun vs H Q E h => ?_) (fun f cdv A outer s H vs Q E hg h => ?_)
  · obtain ⟨b, m, n, rfl, _⟩ := h
    rfl
  obtain ⟨l, ns, k, rfl, hl, hk, hk2, q⟩ := h
  have nd := sc_box.nd
  obtain ⟨v0, v1, v2, l2, g_abs, g_int, g_len⟩ := nm_box
  refine ⟨_, (pss_cons (pst (i := 2) nd l2 (pe_ifB (pt_cm (k_lt hg) (ps 1 v1) (pcb (k_len hg) g_len T.n_len bt_len (pa_cons (ps 0 v0) pa_nil)) (nomark _)) (pe_ix (WX.ok hg) (ps 0 v0) (ps 1 v1) (fun _ _ => rfl)) pe_int))
    (pss_one (ps_ret (pe_lst (pa_cons (pe_op (k_mul hg) (pcb (k_abs hg) g_abs T.n_abs bt_abs (pa_cons (ps 2 v2) pa_nil)) (pct (k_int hg) g_int T.n_int bt_int (pa_cons (pe_cmpR (k_ge hg) (pcb (k_abs hg) g_abs T.n_abs bt_abs (pa_cons (ps 2 v2) pa_nil)) (pe_op (k_pow hg) pe_int pe_int) (nomark _)) pa_nil))) (pa_cons (pe_op (k_add hg) (pe_op (k_add hg) (pe_op (k_mod hg) (pct (k_int hg) g_int T.n_int bt_int (pa_cons (ps 2 v2) pa_nil)) pe_int) (pe_op (k_mul hg) pe_int (ps 1 v1))) pe_int) (pa_cons pe_int pa_nil))))))), ?_⟩
  refine st_start (σ := [some _, some _, none]) rfl ?_
  walk_at "dn"
  refine wc_len_l hl ?_
  walk_at "di"
  refine br_d (fun h => ?_) (fun h => ?_)
  · obtain ⟨v, hv⟩ : ∃ v, ns[k]? = some v := ⟨_, List.getElem?_eq_getElem hk⟩
    refine wx_l hl (v := .int v) (atI_nat (by rw [List.getElem?_map, hv]; rfl)) ?_
    walk_at "go"
    exact fun p hp => q p _ hp (Same.mk hp) ⟨_, _, _, upd_same, by omega, by omega, by omega, by omega⟩
  · exfalso
    rw [List.length_map] at h
    omega
abbrev s_of : Stmt := topS 37
abbrev n_of : List Str := ["_law_box_here", "_law_goods_so"]
theorem sc_of : FnScope n_of ["_law_box_here", "_law_goods_so"] (defScope s_of) := ⟨rfl, rfl, rfl, by decide +kernel, rfl, by decide +kernel, by decide +kernel⟩
theorem nm_of : nvB n_of (defScope s_of) 0 "_law_box_here" = true ∧ nvB n_of (defScope s_of) 1 "_law_goods_so" = true ∧ gvB (defScope s_of) "_law_take" = true ∧ gvB (defScope s_of) "len" = true := by decide +kernel
theorem cl_of {Γ : Gm} (dfn : Dfn Γ "_law_of" s_of ["_law_box_here", "_law_goods_so"]) (T : Names Γ) (c_law_take : Cl Γ CX0 1 "_law_take" spTake []) : Cl Γ CX0 (2) "_law_of" (spOf Γ.K) [] := by
  refine dfn.cl sc_of (fun vs H Q E h => ?_) (fun f cdv A outer s H vs Q E hg h => ?_)
  · obtain ⟨b, m, n, rfl, _⟩ := h
    rfl
  obtain ⟨b, g, n, rfl, hb, h⟩ := h
  have nd := sc_of.nd
  obtain ⟨v0, v1, g__law_take, g_len⟩ := nm_of
  refine ⟨_, (pss_one (ps_ret (pe_ix (WX.ok hg) (ps 1 v1) (pcl c_law_take hg (by omega) g__law_take pass0 (pa_cons (ps 0 v0) (pa_cons (pcb (k_len hg) g_len T.n_len bt_len (pa_cons (ps 1 v1) pa_nil)) pa_nil))) (fun _ _ => rfl)))), ?_⟩
  refine st_start (σ := [some _, some _]) rfl ?_
  walk_at "dn"
  rcases h with ⟨l, xs, rfl, hne, hl, h0, h1, q⟩ | ⟨z, rfl, h0, h1, q⟩
  · refine wc_len_l hl ?_
    walk_at "di"
    refine ⟨b, _, n, rfl, by omega, by omega, hb, fun r H' r0 r1 fr hb' => ?_⟩
    have hr' : r.toNat < xs.length := by omega
    refine wx_l (fr.sql hl (by simpa using hne)) (v := xs[r.toNat]) (atG (z := r) (j := r.toNat) (by omega) (List.getElem?_eq_getElem hr')) ?_
    exact q _ (List.getElem_mem hr') _ fr hb'
  · walk_at "di"
    refine ⟨by rw [sizeLine_eq]; omega, b, _, n, rfl, by omega, by omega, hb, fun r H' r0 r1 fr hb' => ?_⟩
    have hr' : r.toNat < z.cps.toList.length := by rw [Array.length_toList]; show r.toNat < z.length; omega
    refine wx_s (by rw [sizeLine_eq]; omega) (c := z.cps.toList[r.toNat]) (atG (z := r) (j := r.toNat) (by omega) (List.getElem?_eq_getElem hr')) ?_
    exact q _ (List.getElem_mem hr') _ fr hb'
abbrev s_cells : Stmt := topS 36
abbrev n_cells : List Str := ["_law_script", "_law_most", "_law_slots_so", "_law_k", "_law_cell", "_law_at_so"]
theorem sc_cells : FnScope n_cells ["_law_script", "_law_most"] (defScope s_cells) := ⟨rfl, rfl, rfl, by decide +kernel, rfl, by decide +kernel, by decide +kernel⟩
theorem nm_cells : nvB n_cells (defScope s_cells) 0 "_law_script" = true ∧ nvB n_cells (defScope s_cells) 1 "_law_most" = true ∧ nvB n_cells (defScope s_cells) 2 "_law_slots_so" = true ∧ nvB n_cells (defScope s_cells) 3 "_law_k" = true ∧ nvB n_cells (defScope s_cells) 4 "_law_cell" = true ∧ nvB n_cells (defScope s_cells) 5 "_law_at_so" = true ∧ lvB n_cells (defScope s_cells) 2 "_law_slots_so" = true ∧ lvB n_cells (defScope s_cells) 3 "_law_k" = true ∧ lvB n_cells (defScope s_cells) 4 "_law_cell" = true ∧ lvB n_cells (defScope s_cells) 5 "_law_at_so" = true ∧ gvB (defScope s_cells) "enumerate" = true ∧ gvB (defScope s_cells) "int" = true ∧ gvB (defScope s_cells) "list" = true := by decide +kernel
theorem cl_cells {Γ : Gm} (dfn : Dfn Γ "_law_cells" s_cells ["_law_script", "_law_most"]) (T : Names Γ) : Cl Γ CX0 (1) "_law_cells" (spCells Γ.K) [] := by
  refine dfn.cl sc_cells (fun vs H Q E h => ?_) (fun f cdv A outer s H vs Q E hg h => ?_)
  · obtain ⟨b, m, n, rfl, _⟩ := h
    rfl
  obtain ⟨l, ns, m, rfl, hl, hn, m1, m3, q⟩ := h
  have nd := sc_cells.nd
  obtain ⟨v0, v1, v2, v3, v4, v5, l2, l3, l4, l5, g_enumerate, g_int, g_list⟩ := nm_cells
  refine ⟨_, (C8.pss_cut (pst (i := 2) nd l2 (pe_or2 hg (pct (WC.ok hg) g_list T.n_list bt_list (pa_cons (pe_slice (WL.ok hg) (ps 0 v0) po_none (po_pt (ps 1 v1))) pa_nil)) (pe_one (pe_lst (pa_cons pe_int pa_nil)))))
    (pss_cons (ps_for PassesOwn.never rfl (pi_en hg g_enumerate T.n_enumerate (pa_cons (pe_slice (WL.ok hg) (ps 0 v0) (po_pt (ps 1 v1)) (po_pt pe_int)) pa_nil)) (pg_tK hg 2 rfl (pgs_c (pgn (i := 3) nd l3) (pgs_c (pgn (i := 4) nd l4) pgs_0)))
    (pss_cons (pst (i := 5) nd l5 (pe_op (k_mod hg) (pct (k_int hg) g_int T.n_int bt_int (pa_cons (ps 3 v3) pa_nil)) (ps 1 v1)))
    (pss_one (ps_asg (pe_op (k_add hg) (pe_ix (WX.ok hg) (ps 2 v2) (ps 5 v5) (fun _ _ => rfl)) (pe_op (k_mul hg) (ps 4 v4) (pe_op (k_add hg) (ps 3 v3) pe_int))) (pg_sub (ps 2 v2) (ps 5 v5) (WP.ok hg))))))
    (pss_one (ps_ret (ps 2 v2))))), ?_⟩
  refine st_start (σ := [some _, some _, none, none, none, none]) rfl ?_
  walk_at "dn"
  refine ⟨fun σ' H' => ∃ (p : Addr) (ks : List Int), σ' = [some (.ref l), some (.int m), some (.ref p), none, none, none] ∧ H p = none ∧ Same H H' ∧ H' p = some (.lst (ks.map V.int)) ∧ 1 ≤ ks.length ∧ ks.length ≤ m ∧ (m < ns.length → ks.length = m), ?_, ?_⟩
  · refine wl_l hl fun p hp => ?_
    rw [cut_to, ← List.map_take]
    refine wc_list (.inl (SqL.of upd_same)) fun p2 hp2 => ?_
    have s2 : Same H (upd (upd H p (.lst ((ns.take m).map V.int))) p2 (.lst ((ns.take m).map V.int))) := (Same.mk hp).trans (Same.mk hp2)
    have h2 : H p2 = none := (Same.mk hp).free hp2
    refine ⟨_, .inl ⟨_, SqL.of upd_same, rfl⟩, br_b (fun e => ?_) (fun e => ⟨szl (by simp only [List.length_cons, List.length_nil]; omega), fun p3 hp3 => ?_⟩)⟩
    · refine ⟨p2, _, rfl, h2, s2, upd_same, ?_, by rw [List.length_take]; omega, fun z => by rw [List.length_take]; omega⟩
      cases q : ns.take m with
      | nil => rw [q] at e; cases e
      | cons _ _ => rw [List.length_cons]; omega
    · refine ⟨p3, [0], rfl, s2.free hp3, s2.trans (Same.mk hp3), upd_same, Nat.le_refl _, m1, fun z => ?_⟩
      exfalso
      cases q : ns.take m with
      | nil => have := congrArg List.length q; rw [List.length_take] at this; simp only [List.length_nil] at this; omega
      | cons _ _ => rw [q] at e; cases e
  · rintro σ' H1 ⟨p, ks, rfl, hp, s1, h1, k1, km, kn⟩
    walk_at "di"
    refine wl_l (Same.seq s1 hl) fun p3 hp3 => ?_
    have hws : ∀ v ∈ cutV (ns.map V.int) (some (m : Int)) (some (63 : Int)), ∃ z : Int, v = .int z := by
      intro v hv
      obtain ⟨z, _, rfl⟩ := List.mem_map.mp (List.mem_of_mem_drop (List.mem_of_mem_take hv))
      exact ⟨z, rfl⟩
    have hmn : cutV (ns.map V.int) (some (m : Int)) (some (63 : Int)) ≠ [] → m < ns.length := by
      intro h
      by_cases z : m < ns.length
      · exact z
      · refine absurd ?_ h
        unfold cutV
        rw [HT.sIx_nat, Nat.min_eq_right (by rw [List.length_map]; omega), List.drop_length, List.take_nil]
    have hsz : (cutV (ns.map V.int) (some (m : Int)) (some (63 : Int))).length ≤ 63 := Nat.le_trans (cutV_length _ _ _) (by rw [List.length_map]; exact hn)
    generalize cutV (ns.map V.int) (some (m : Int)) (some (63 : Int)) = ws at hws hmn hsz
    have s0 : SS (E := ⟨Γ.K, fun _ => True⟩) H [] (upd H1 p3 (.lst ws)) [] [lstR p3 ws, lstR p (ks.map V.int)] := (SS.of1 hp s1 h1 (fun z => z)).newC hp3 (fun z => z)
    refine ⟨p3, ws, rfl, SqL.of upd_same, ?_⟩
    refine lp_it walk_enum (fun i σ H' => ∃ (ks' : List Int) (F : List (PF ⟨Γ.K, fun _ => True⟩)) (a b c : Option V), σ = [some (V.ref l), some (V.int m), some (V.ref p), a, b, c] ∧ SS (E := ⟨Γ.K, fun _ => True⟩) H [] H' F [lstR p3 ws, lstR p (ks'.map V.int)] ∧ ks'.length = ks.length)
      ⟨ks, [], none, none, none, rfl, s0, rfl⟩ (fun i σ H' _ ⟨_, _, _, _, _, _, s, _⟩ => SqL.of (s.cell (.head _))) ?_ ?_
    · rintro i x σ H2 H' hi ⟨ks', F, a, b, c, rfl, s, hk⟩ ⟨T, x1, y, rfl, hT, rfl, e1, e2⟩
      cases e1
      obtain ⟨z, rfl⟩ := hws y (List.mem_of_getElem? e2)
      have hkm : ks'.length = m := by rw [hk]; exact kn (hmn fun z => by rw [z] at hi; cases hi)
      have s2 := s.newT (xs := [V.int i, V.int z]) hT
      refine gt_of (s2.tup (.head _)) rfl ?_
      walk_at "dn"
      refine ⟨by omega, ?_⟩
      have hm : ((i : Int) % m).toNat < ks'.length := by have := Int.emod_lt_of_pos (i : Int) (b := m) (by omega); omega
      obtain ⟨u, hu⟩ : ∃ u, ks'[((i : Int) % m).toNat]? = some u := ⟨_, List.getElem?_eq_getElem hm⟩
      have hix : (i : Int) % m = (((i : Int) % m).toNat : Nat) := by have := Int.emod_nonneg (i : Int) (b := m) (by omega); omega
      refine wx_l (SqL.of (s2.cell (.tail _ (.head _)))) (v := .int u) (atG (j := ((i : Int) % m).toNat) hix (by rw [List.getElem?_map, hu]; rfl)) ?_
      walk_at "di"
      refine ⟨.inr ⟨by omega, by omega⟩, wp_ss s2 (.next .here) (j := ((i : Int) % m).toNat) ?_ fun H3 s3 => ⟨ks'.set ((i : Int) % m).toNat (u + z * (i + 2)), F, _, _, _, rfl, ?_, ?_⟩⟩
      · have hxx := ixN_n (n := (ks'.map V.int).length) (j := ((i : Int) % m).toNat) (by rw [List.length_map]; exact hm)
        rw [← hix] at hxx
        exact hxx
      · rw [List.map_set]; exact s3.sub fun x hx => .tail _ hx
      · rw [List.length_set]; exact hk
    · rintro σ H2 ⟨ks', F, a, b, c, rfl, s, hk⟩
      exact q p H2 ks' hp s.fr.same (s.cell (.tail _ (.head _))) (by omega) (by omega)
abbrev s_pick : Stmt := topS 38
abbrev n_pick : List Str := ["_law_box_here", "_law_goods_so", "_law_count_so", "_law_rest", "_law_found", "_law_turn"]
theorem sc_pick : FnScope n_pick ["_law_box_here", "_law_goods_so", "_law_count_so"] (defScope s_pick) := ⟨rfl, rfl, rfl, by decide +kernel, rfl, by decide +kernel, by decide +kernel⟩
theorem nm_pick : nvB n_pick (defScope s_pick) 0 "_law_box_here" = true ∧ nvB n_pick (defScope s_pick) 1 "_law_goods_so" = true ∧ nvB n_pick (defScope s_pick) 2 "_law_count_so" = true ∧ nvB n_pick (defScope s_pick) 3 "_law_rest" = true ∧ nvB n_pick (defScope s_pick) 4 "_law_found" = true ∧ lvB n_pick (defScope s_pick) 5 "_law_turn" = true ∧ gvB (defScope s_pick) "_law_take" = true ∧ gvB (defScope s_pick) "int" = true ∧ gvB (defScope s_pick) "len" = true ∧ gvB (defScope s_pick) "list" = true ∧ gvB (defScope s_pick) "min" = true ∧ gvB (defScope s_pick) "range" = true := by decide +kernel
theorem cl_pick {Γ : Gm} (dfn : Dfn Γ "_law_pick" s_pick ["_law_box_here", "_law_goods_so", "_law_count_so"]) (T : Names Γ) (c_law_take : Cl Γ CX0 1 "_law_take" spTake []) : Cl Γ CX0 (2) "_law_pick" (spPick Γ.K) [] := by
  refine dfn.cl sc_pick (fun vs H Q E h => ?_) (fun f cdv A outer s H vs Q E hg h => ?_)
  · obtain ⟨b, g, gs, n, m, rfl, _⟩ := h
    rfl
  obtain ⟨b, g, gs, n, m, rfl, hb, hl, hgd, q⟩ := h
  have hm40 : m < 2 ^ 41 := by obtain ⟨_, _, _, _, _, _, h1, h2⟩ := hb; omega
  have nd := sc_pick.nd
  obtain ⟨v0, v1, v2, v3, v4, l5, g__law_take, g_int, g_len, g_list, g_min, g_range⟩ := nm_pick
  refine ⟨_, (pss_cons (ps_p2 (i := 3) (j := 4) rfl nd rfl rfl (by decide) rfl rfl (pa_cons (pct (WC.ok hg) g_list T.n_list bt_list (pa_cons (ps 1 v1) pa_nil)) (pa_cons (pe_lst pa_nil) pa_nil)) (by rfl))
    (pss_cons (ps_for PassesOwn.never rfl (pi_r1 g_range T.n_range (pa_cons (pcb (k_min hg) g_min T.n_min bt_min (pa_cons (pct (k_int hg) g_int T.n_int bt_int (pa_cons (ps 2 v2) pa_nil)) (pa_cons (pcb (k_len hg) g_len T.n_len bt_len (pa_cons (ps 3 v3) pa_nil)) pa_nil))) pa_nil)) (pgn (i := 5) nd l5)
    (pss_one (ps_expr (pe_bmK hg PySem.F.plainAttrs_list PySem.F.slot_list_append PySem.F.type_list_append mt_append (ps 4 v4) (pa_cons (pe_bmK hg PySem.F.plainAttrs_list PySem.F.slot_list_pop PySem.F.type_list_pop mt_popAt (ps 3 v3) (pa_cons (pcl c_law_take hg (by omega) g__law_take pass0 (pa_cons (ps 0 v0) (pa_cons (pcb (k_len hg) g_len T.n_len bt_len (pa_cons (ps 3 v3) pa_nil)) pa_nil))) pa_nil)) pa_nil)))))
    (pss_one (ps_ret (ps 4 v4))))), ?_⟩
  refine st_start (σ := [some _, some _, some _, none, none, none]) rfl ?_
  walk_at "dn"
  have first : ∀ (R : VK), (∀ p, H p = none → R (.ref p) (upd H p (.lst gs))) → WC (Γ.at 1) (Value.type "list") [g] H R := by
    intro R k
    rcases hgd with ⟨l, rfl, h⟩ | ⟨z, rfl, rfl⟩
    · exact wc_list (.inl h) k
    · exact wc_listS (Nat.le_of_lt (lt_size (by unfold sgs at hl; rw [List.length_map] at hl; exact Nat.lt_of_le_of_lt (Nat.le_of_eq Array.length_toList.symm) hl))) k
  refine first _ fun p1 hp1 => ⟨szl (by simp only [List.length_nil]; omega), fun p2 hp2 => ?_⟩
  refine wc_len_l (SqL.of ((Same.mk hp2) _ _ upd_same)) ?_
  walk_at "di"
  refine ⟨_, rfl, by split <;> omega, by split <;> omega, ?_⟩
  rw [show (if (gs.length : Int) < m then (gs.length : Int) else m).toNat = min m gs.length from by split <;> omega]
  have s0 : SS (E := E0v Γ.K) H [b] (upd (upd H p1 (.lst gs)) p2 (.lst [])) [] [lstR p2 [], lstR p1 gs, boxR b (n + m)] := ((SS.box1 (E := E0v Γ.K) hb).newC (o := .lst gs) hp1 (fun z => z)).newC hp2 (fun z => z)
  refine lp_range (fun i σ H' => ∃ (xs rs : List V) (a : Option V), σ = [some (.ref b), some g, some (.int m), some (.ref p1), some (.ref p2), a] ∧ SS (E := E0v Γ.K) H [b] H' [] [lstR p2 xs, lstR p1 rs, boxR b (n + (m - i))] ∧ (xs ++ rs).Perm gs ∧ xs.length = i) ⟨[], gs, none, rfl, s0, .refl _, rfl⟩ ?_ ?_
  · rintro i σ H1 hi ⟨xs, rs, a, rfl, s, hperm, hlen⟩
    walk_at "dn"
    have hrl : xs.length + rs.length = gs.length := by rw [← List.length_append]; exact hperm.length_eq
    have hbx := s.box (.tail _ (.tail _ (.head _)))
    rw [show n + (m - i) = n + (m - (i + 1)) + 1 from by omega] at hbx
    refine ⟨ty_l (SqL.of (s.cell (.head _))), ty_l (SqL.of (s.cell (.tail _ (.head _)))), wc_len_l (SqL.of (s.cell (.tail _ (.head _)))) ⟨b, _, n + (m - (i + 1)), rfl, by omega, by omega, hbx, fun r H2 r0 r1 fr hb2 => ?_⟩⟩
    have s2 := s.draw (.next (.next .here)) fr hb2
    obtain ⟨y, hy⟩ : ∃ y, rs[r.toNat]? = some y := ⟨_, List.getElem?_eq_getElem (by omega)⟩
    refine pop_ss s2 (.next .here) (j := r.toNat) (by omega) hy (by omega) fun H3 s3 => ap_ss s3 .here (lt_size (by omega)) fun H4 s4 => ?_
    refine ⟨xs ++ [y], rs.eraseIdx r.toNat, _, rfl, s4, ?_, by rw [List.length_append, hlen]; rfl⟩
    refine List.Perm.trans ?_ hperm
    rw [List.append_assoc]
    exact (erase_perm rs r.toNat y hy).append_left xs
  · rintro σ H1 ⟨xs, rs, a, rfl, s, hperm, hlen⟩
    exact q p2 xs H1 ((Same.mk hp1).free hp2) s.fr ((s.box (.tail _ (.tail _ (.head _)))).less (by omega)) (s.cell (.head _)) ⟨rs, hperm⟩ hlen
abbrev s_names : Stmt := topS 40
abbrev n_names : List Str := ["_law_box_here", "_law_many", "_law_letters_so", "_law_long", "_law_base", "_law_kind", "_law_place", "_law_found", "_law_sign", "_law_turn"]
theorem sc_names : FnScope n_names ["_law_box_here", "_law_many"] (defScope s_names) := ⟨rfl, rfl, rfl, by decide +kernel, rfl, by decide +kernel, by decide +kernel⟩
theorem nm_names : nvB n_names (defScope s_names) 0 "_law_box_here" = true ∧ nvB n_names (defScope s_names) 1 "_law_many" = true ∧ nvB n_names (defScope s_names) 2 "_law_letters_so" = true ∧ nvB n_names (defScope s_names) 3 "_law_long" = true ∧ nvB n_names (defScope s_names) 4 "_law_base" = true ∧ nvB n_names (defScope s_names) 5 "_law_kind" = true ∧ nvB n_names (defScope s_names) 6 "_law_place" = true ∧ nvB n_names (defScope s_names) 7 "_law_found" = true ∧ nvB n_names (defScope s_names) 8 "_law_sign" = true ∧ lvB n_names (defScope s_names) 2 "_law_letters_so" = true ∧ lvB n_names (defScope s_names) 3 "_law_long" = true ∧ lvB n_names (defScope s_names) 8 "_law_sign" = true ∧ gvB (defScope s_names) "_law_pick" = true ∧ gvB (defScope s_names) "_law_take" = true ∧ gvB (defScope s_names) "range" = true := by decide +kernel
theorem cl_names {Γ : Gm} (dfn : Dfn Γ "_law_names" s_names ["_law_box_here", "_law_many"]) (T : Names Γ) (c_law_take : Cl Γ CX0 1 "_law_take" spTake []) (c_law_of : Cl Γ CX0 2 "_law_of" (spOf Γ.K) []) (c_law_pick : Cl Γ CX0 2 "_law_pick" (spPick Γ.K) []) : Cl Γ CX0 (4) "_law_names" (spNms Γ.K) [] := by
  refine dfn.cl sc_names (fun vs H Q E h => ?_) (fun f cdv A outer s H vs Q E hg h => ?_)
  · obtain ⟨b, n, m, rfl, _⟩ := h
    rfl
  obtain ⟨b, n, m, rfl, hb, hm, q⟩ := h
  have nd := sc_names.nd
  obtain ⟨v0, v1, v2, v3, v4, v5, v6, v7, v8, l2, l3, l8, g__law_pick, g__law_take, g_range⟩ := nm_names
  refine ⟨_, (pss_cons (pst (i := 2) nd l2 pe_str)
    (pss_cons (pst (i := 3) nd l3 (pe_op (k_add hg) pe_int (pcl c_law_take hg (by omega) g__law_take pass0 (pa_cons (ps 0 v0) (pa_cons pe_int pa_nil)))))
    (C8.pss_cut (ps_setLc (i := 4) (own := [("_law_turn", 9)]) rfl nd rfl rfl (sw_true rfl rfl rfl (by decide +kernel)) (pi_r1 g_range T.n_range (pa_cons (ps 3 v3) pa_nil)) (blkOk_by (N := n_names) (sc := defScope s_names) (by decide +kernel)) (fun _ _ _ _ _ => (pg_name (i := 9) nd rfl (by first | exact .inl rfl | exact .inr rfl))) (fun _ _ _ _ _ => pts_nil) (fun _ _ _ _ _ => (pcl c_law_of hg.blk (by omega) (by rfl) pass0 (pa_cons (psr 0) (pa_cons (psr 2) pa_nil)))))
    (pss_cons (ps_p3 (i := 5) (j := 6) (l := 7) rfl nd rfl rfl rfl (by decide) (by decide) (by decide) rfl rfl rfl (pa_cons (pcl c_law_take hg (by omega) g__law_take pass0 (pa_cons (ps 0 v0) (pa_cons pe_int pa_nil))) (pa_cons (pcl c_law_take hg (by omega) g__law_take pass0 (pa_cons (ps 0 v0) (pa_cons (ps 3 v3) pa_nil))) (pa_cons (pe_lst pa_nil) pa_nil))) (by rfl))
    (pss_cons (ps_for PassesOwn.never rfl (pi_l hg (pcl c_law_pick hg (by omega) g__law_pick pass0 (pa_cons (ps 0 v0) (pa_cons (ps 2 v2) (pa_cons (ps 1 v1) pa_nil))))) (pgn (i := 8) nd l8)
    (pss_one (ps_ifB (pt_cm (k_eq hg) (ps 5 v5) pe_int (nomark _))
    (pss_one (ps_expr (pe_bmK hg PySem.F.plainAttrs_list PySem.F.slot_list_append PySem.F.type_list_append mt_append (ps 7 v7) (pa_cons (ps 8 v8) pa_nil))))
    (pss_one (ps_ifB (pt_cm (k_lt hg) (ps 5 v5) pe_int (nomark _))
    (pss_one (ps_expr (pe_bmK hg PySem.F.plainAttrs_list PySem.F.slot_list_append PySem.F.type_list_append mt_append (ps 7 v7) (pa_cons (pe_jn hg pe_str (pe_op (k_add hg) (pe_op (k_add hg) (pe_slice (WL.ok hg) (ps 4 v4) po_none (po_pt (ps 6 v6))) (pe_lst (pa_cons (ps 8 v8) pa_nil))) (pe_slice (WL.ok hg) (ps 4 v4) (po_pt (pe_op (k_add hg) (ps 6 v6) pe_int)) po_none))) pa_nil))))
    (pss_one (ps_expr (pe_bmK hg PySem.F.plainAttrs_list PySem.F.slot_list_append PySem.F.type_list_append mt_append (ps 7 v7) (pa_cons (pe_op (k_add hg) (ps 8 v8) (pe_jn hg pe_str (pe_lc (own := [("_law_turn", 9)]) rfl nd (pi_r1 g_range T.n_range (pa_cons (pcl c_law_take hg (by omega) g__law_take pass0 (pa_cons (ps 0 v0) (pa_cons pe_int pa_nil))) pa_nil)) (blkOk_by (N := n_names) (sc := defScope s_names) (by decide +kernel)) (fun _ _ _ _ _ => (pg_name (i := 9) nd rfl (by first | exact .inl rfl | exact .inr rfl))) (fun _ _ _ _ _ => pts_nil) (fun _ _ _ _ _ => (pcl c_law_of hg.blk (by omega) (by rfl) pass0 (pa_cons (psr 0) (pa_cons (psr 2) pa_nil))))))) pa_nil)))))))))
    (pss_one (ps_ret (ps 7 v7)))))))), ?_⟩
  refine st_start (σ := [some _, some _, none, none, none, none, none, none, none, none]) rfl ?_
  walk_at "dn"
  refine ⟨b, 8, n + 499, rfl, by omega, by omega, hb, fun r H1 r0 r1 f1 b1 => ?_⟩
  walk_at "di"
  have hS1 : SS (E := E0v Γ.K) H [b] H1 [] [boxR b (n + 499)] := (SS.box1 (E := E0v Γ.K) hb).draw .here f1 b1
  refine ⟨fun σ' H' => ∃ (pb : Addr) (bs : List Nat), σ' = [some (.ref b), some (.int m), some (.str (Str.ofString "abcdefghijklmnopqrstuvwxyz")), some (.int (1 + r)), some (.ref pb), none, none, none, none, none] ∧
    SS (E := E0v Γ.K) H [b] H' [] [lstR pb (bs.map fun c => V.str (sg1 c)), boxR b (n + 490)] ∧ bs.length = (1 + r).toNat ∧ ∀ c ∈ bs, 97 ≤ c ∧ c ≤ 122, ⟨_, rfl, by omega, by omega, fun D hD => ?_⟩, ?_⟩
  · refine lq_it walk_range (fun i acc H' => ∃ cs : List Nat, acc = cs.map (fun c => V.str (sg1 c)) ∧ cs.length = i ∧ (∀ c ∈ cs, 97 ≤ c ∧ c ≤ 122) ∧ SS (E := E0v Γ.K) H [b] H' [] [lstR D acc, boxR b (n + 490 + (8 - i))])
      ⟨[], rfl, rfl, (fun _ h => nomatch h), ((hS1.draw .here (Fr.refl) ((hS1.box (.head _)).less (by omega))).newC (o := .lst []) hD (fun z => z))⟩ (fun _ _ _ _ _ => trivial) ?_ ?_
    · rintro i x acc H2 H3 hi hl ⟨cs, rfl, hlen, hcs, s⟩ ⟨rfl, rfl⟩
      walk_at "dn"
      have hbx := s.box (.tail _ (.head _))
      rw [show n + 490 + (8 - i) = n + 490 + (8 - (i + 1)) + 1 from by omega] at hbx
      refine ⟨rfl, b, _, n + 490 + (8 - (i + 1)), rfl, hbx, .inr ⟨_, rfl, by rw [let_len]; omega, by rw [let_len]; omega, fun c hc H4 f4 b4 => ?_⟩⟩
      have s4 := s.draw (.next .here) f4 b4
      refine lq_add s4 hl (lt_size (by omega)) ⟨_, lq_len hl, cs ++ [c], by rw [List.map_append]; rfl, by rw [List.length_append, hlen]; rfl, ?_, s4.app⟩
      intro d hd
      rcases List.mem_append.mp hd with h | h
      · exact hcs d h
      · rw [List.mem_singleton.mp h]; exact let_mem hc
    · rintro acc H2 hl ⟨cs, rfl, hlen, hcs, s⟩
      exact ⟨D, cs, rfl, s.draw (.next .here) (Fr.refl) ((s.box (.tail _ (.head _))).less (by omega)), hlen, hcs⟩
  · rintro σ' H2 ⟨pb, bs, rfl, s2, hbl, hbs⟩
    walk_at "di"
    refine ⟨b, 4, n + 489, rfl, by omega, by omega, s2.box (.tail _ (.head _)), fun kd H3 k0 k1 f3 b3 => ?_⟩
    have s3 := s2.draw (.next .here) f3 b3
    refine ⟨b, _, n + 488, rfl, by omega, by omega, b3, fun pl H4 p0 p1 f4 b4 => ?_⟩
    have s4 := s3.draw (.next .here) f4 b4
    refine ⟨szl (by simp only [List.length_nil]; omega), fun pf hpf => ?_⟩
    have s5 := s4.newC (o := .lst []) hpf (fun z => z)
    walk_at "di"
    refine ⟨b, _, sgs (Str.ofString "abcdefghijklmnopqrstuvwxyz"), n + 400, m, rfl, (s5.box (.tail _ (.tail _ (.head _)))).less (by omega), ?_, .inr ⟨_, rfl, rfl⟩, fun pp xs H6 hpp f6 b6 hxs hpm hxl => ?_⟩
    · unfold sgs; rw [List.length_map, show (Str.ofString "abcdefghijklmnopqrstuvwxyz").cps.toList.length = 26 from by decide +kernel]; omega
    obtain ⟨rr, hpm⟩ := hpm
    obtain ⟨cs, rfl, hcn, hcm⟩ := picked hpm let_nd
    have s6 := s5.drawN (.next (.next .here)) f6 (b6.less (show n + 8 * m ≤ n + 400 by omega)) hpp hxs (fun z => z)
    rw [List.length_map, show (sgs (Str.ofString "abcdefghijklmnopqrstuvwxyz")).length = 26 from by unfold sgs; rw [List.length_map]; decide +kernel] at hxl
    obtain ⟨pn, rfl⟩ : ∃ pn : Nat, pl = pn := ⟨pl.toNat, by omega⟩
    refine ⟨pp, rfl, ⟨_, SqL.of hxs⟩, ?_⟩
    refine lp_list (xs := cs.map fun c => V.str (sg1 c)) (fun i σ H' => ∃ (zs : List Str) (a8 a9 : Option V), σ = [some (.ref b), some (.int m), some (.str (Str.ofString "abcdefghijklmnopqrstuvwxyz")), some (.int (1 + r)), some (.ref pb), some (.int kd), some (.int pn), some (.ref pf), a8, a9] ∧
      SS (E := E0v Γ.K) H [b] H' [] [lstR pp (cs.map fun c => V.str (sg1 c)), lstR pf (zs.map V.str), lstR pb (bs.map fun c => V.str (sg1 c)), boxR b (n + 8 * (m - i))] ∧ zs.length = i ∧
      ∀ (j : Nat) (z : Str), zs[j]? = some z → Nm z ∧ ∃ c, cs[j]? = some c ∧ z.cps.toList[if kd = 1 ∨ kd = 2 then pn else 0]? = some c)
      ⟨[], none, none, rfl, s6, rfl, fun j z h => by simp at h⟩ (fun i σ H' hi ⟨_, _, _, _, s, _⟩ => SqL.of (s.cell (.head _))) ?_ ?_
    · rintro i x σ H7 hi ⟨zs, a8, a9, rfl, s7, hzl, hz⟩
      rw [List.getElem?_map] at hi
      obtain ⟨c, hci, rfl⟩ := Option.map_eq_some_iff.mp hi
      have hil : i < m := by have := (List.getElem?_eq_some_iff.mp hci).1; omega
      have hlc := let_mem (hcm c (List.mem_of_getElem? hci))
      have fin : ∀ (z : Str) (H' : Hp) (b9 : Option V), SS (E := E0v Γ.K) H [b] H' [] [lstR pp (cs.map fun c => V.str (sg1 c)), lstR pf (zs.map V.str), lstR pb (bs.map fun c => V.str (sg1 c)), boxR b (n + 8 * (m - (i + 1)))] →
          Nm z → z.cps.toList[if kd = 1 ∨ kd = 2 then pn else 0]? = some c → rAppend (.ref pf) [.str z] H' fun _ H'' => ∃ (zs : List Str) (a8 a9 : Option V), [some (.ref b), some (.int m), some (.str (Str.ofString "abcdefghijklmnopqrstuvwxyz")), some (.int (1 + r)), some (.ref pb), some (.int kd), some (.int pn), some (.ref pf), some (V.str (sg1 c)), b9] = [some (.ref b), some (.int m), some (.str (Str.ofString "abcdefghijklmnopqrstuvwxyz")), some (.int (1 + r)), some (.ref pb), some (.int kd), some (.int pn), some (.ref pf), a8, a9] ∧
      SS (E := E0v Γ.K) H [b] H'' [] [lstR pp (cs.map fun c => V.str (sg1 c)), lstR pf (zs.map V.str), lstR pb (bs.map fun c => V.str (sg1 c)), boxR b (n + 8 * (m - (i + 1)))] ∧ zs.length = i + 1 ∧
      ∀ (j : Nat) (z : Str), zs[j]? = some z → Nm z ∧ ∃ c, cs[j]? = some c ∧ z.cps.toList[if kd = 1 ∨ kd = 2 then pn else 0]? = some c := by
        intro z H' b9 s' hn hp
        refine ap_ss (v := V.str z) s' (.next .here) (lt_size (by rw [List.length_map]; omega)) fun H'' s'' => ⟨zs ++ [z], _, _, rfl, by rw [List.map_append]; exact s'', by rw [List.length_append, hzl]; rfl, fun j y hy => ?_⟩
        by_cases hj : j < i
        · rw [List.getElem?_append_left (by omega)] at hy; exact hz j y hy
        · have hj2 := (List.getElem?_eq_some_iff.mp hy).1
          rw [List.length_append, hzl] at hj2
          obtain rfl : j = i := by simp only [List.length_cons, List.length_nil] at hj2; omega
          rw [← hzl, List.getElem?_concat_length] at hy
          cases hy
          exact ⟨hn, c, hci, hp⟩
      have hbx := s7.box (.tail _ (.tail _ (.tail _ (.head _))))
      walk_at "dn"
      refine br_d (fun hk => ?_) (fun hk => br_d (fun hk3 => ?_) (fun hk3 => ?_))
      · refine ⟨ty_l (SqL.of (s7.cell (.tail _ (.head _)))), fin (sg1 c) H7 a9 (s7.draw (.next (.next (.next .here))) (Fr.refl) (hbx.less (by omega))) ⟨Nat.le_refl 1, (by show 1 ≤ 8; omega), ?_⟩ ?_⟩
        · intro d hd
          rw [List.mem_singleton.mp (show d ∈ [c] from hd)]; exact hlc
        · rw [if_neg (by omega)]; rfl
      · refine ⟨ty_l (SqL.of (s7.cell (.tail _ (.head _)))), ⟨_, rfl⟩, wl_l (SqL.of (s7.cell (.tail _ (.tail _ (.head _))))) fun p1 hp1 => ?_⟩
        rw [cut_to] at *
        refine ⟨szl (by simp only [List.length_cons, List.length_nil]; omega), fun p2 hp2 => ?_⟩
        have t1 := s7.newC (o := .lst ((bs.map fun c => V.str (sg1 c)).take pn)) hp1 (fun z => z)
        have t2 := t1.newC (o := .lst [V.str (sg1 c)]) hp2 (fun z => z)
        refine wo_cat (t2.cell (.tail _ (.head _))) (t2.cell (.head _)) (szl (by simp only [List.length_cons, List.length_nil, List.length_take, List.length_map]; omega)) fun p3 hp3 => ?_
        have t3 := t2.newC (o := .lst ((bs.map fun c => V.str (sg1 c)).take pn ++ [V.str (sg1 c)])) hp3 (fun z => z)
        refine wl_l (SqL.of (t3.cell (.tail _ (.tail _ (.tail _ (.tail _ (.tail _ (.head _)))))))) fun p4 hp4 => ?_
        rw [show ((pn : Int) + 1) = ((pn + 1 : Nat) : Int) from by omega, cut_from] at *
        have t4 := t3.newC (o := .lst ((bs.map fun c => V.str (sg1 c)).drop (pn + 1))) hp4 (fun z => z)
        refine wo_cat (t4.cell (.tail _ (.head _))) (t4.cell (.head _)) (szl (by simp only [List.length_append, List.length_cons, List.length_nil, List.length_take, List.length_drop, List.length_map]; omega)) fun p5 hp5 => ?_
        have t5 := t4.newC (o := .lst ((bs.map fun c => V.str (sg1 c)).take pn ++ [V.str (sg1 c)] ++ (bs.map fun c => V.str (sg1 c)).drop (pn + 1))) hp5 (fun z => z)
        have el : (bs.map fun c => V.str (sg1 c)).take pn ++ [V.str (sg1 c)] ++ (bs.map fun c => V.str (sg1 c)).drop (pn + 1) = ((bs.take pn ++ [c] ++ bs.drop (pn + 1)).map sg1).map V.str := by
          simp only [List.map_append, List.map_take, List.map_drop, List.map_map, List.map_cons, List.map_nil]
          rfl
        have ll : (bs.take pn ++ [c] ++ bs.drop (pn + 1)).length = bs.length := by
          simp only [List.length_append, List.length_cons, List.length_nil, List.length_take, List.length_drop]
          omega
        refine ⟨_, p5, (bs.take pn ++ [c] ++ bs.drop (pn + 1)).map sg1, rfl, rfl, .inl (SqL.of (by rw [← el]; exact t5.cell (.head _))), ?_, ?_⟩
        · rw [sg_sum, ll, List.length_map, ll, show (Str.ofString "").length = 0 from rfl]; omega
        · rw [jn1]
          refine fin _ _ _ (t5.drop.drop.drop.drop.drop.draw (.next (.next (.next .here))) (Fr.refl) ((t5.box (.tail _ (.tail _ (.tail _ (.tail _ (.tail _ (.tail _ (.tail _ (.tail _ (.head _)))))))))).less (by omega))) ⟨?_, ?_, fun d hd => ?_⟩ ?_
          · show 1 ≤ (bs.take pn ++ [c] ++ bs.drop (pn + 1)).toArray.size
            rw [List.size_toArray, ll]; omega
          · show (bs.take pn ++ [c] ++ bs.drop (pn + 1)).toArray.size ≤ 8
            rw [List.size_toArray, ll]; omega
          · have hd2 : d ∈ bs.take pn ++ [c] ++ bs.drop (pn + 1) := hd
            rcases List.mem_append.mp hd2 with h | h
            · rcases List.mem_append.mp h with h | h
              · exact hbs d (List.mem_of_mem_take h)
              · rw [List.mem_singleton.mp h]; exact hlc
            · exact hbs d (List.mem_of_mem_drop h)
          · rw [if_pos (by omega)]
            show (bs.take pn ++ [c] ++ bs.drop (pn + 1))[pn]? = some c
            rw [List.append_assoc, List.getElem?_append_right (by rw [List.length_take]; omega), List.length_take, Nat.min_eq_left (by omega), Nat.sub_self]
            rfl
      · refine ⟨ty_l (SqL.of (s7.cell (.tail _ (.head _)))), ⟨_, rfl⟩, b, 8, n + 8 * (m - (i + 1)) + 7, rfl, by omega, by omega, hbx.less (by omega), fun r2 H8 q0 q1 f8 b8 => ⟨r2, rfl, by omega, by omega, fun D hD => ?_⟩⟩
        have s8 := s7.draw (.next (.next (.next .here))) f8 b8
        refine lq_it walk_range (fun i2 acc H' => ∃ cs2 : List Nat, acc = cs2.map (fun c => V.str (sg1 c)) ∧ cs2.length = i2 ∧ (∀ c ∈ cs2, 97 ≤ c ∧ c ≤ 122) ∧ SS (E := E0v Γ.K) H [b] H' [] [lstR D acc, lstR pp (cs.map fun c => V.str (sg1 c)), lstR pf (zs.map V.str), lstR pb (bs.map fun c => V.str (sg1 c)), boxR b (n + 8 * (m - (i + 1)) + (7 - i2))])
          ⟨[], rfl, rfl, (fun _ h => nomatch h), s8.newC (o := .lst []) hD (fun z => z)⟩ (fun _ _ _ _ _ => trivial) ?_ ?_
        · rintro i2 x acc H9 H10 hi2 hl2 ⟨cs2, rfl, hlen2, hcs2, s⟩ ⟨rfl, rfl⟩
          walk_at "dn"
          have hb2 := s.box (.tail _ (.tail _ (.tail _ (.tail _ (.head _)))))
          rw [show n + 8 * (m - (i + 1)) + (7 - i2) = n + 8 * (m - (i + 1)) + (7 - (i2 + 1)) + 1 from by omega] at hb2
          refine ⟨rfl, b, _, n + 8 * (m - (i + 1)) + (7 - (i2 + 1)), rfl, hb2, .inr ⟨_, rfl, by rw [let_len]; omega, by rw [let_len]; omega, fun c2 hc2 H11 f11 b11 => ?_⟩⟩
          have s11 := s.draw (.next (.next (.next (.next .here)))) f11 b11
          refine lq_add s11 hl2 (lt_size (by omega)) ⟨_, lq_len hl2, cs2 ++ [c2], by rw [List.map_append]; rfl, by rw [List.length_append, hlen2]; rfl, ?_, s11.app⟩
          intro d hd
          rcases List.mem_append.mp hd with h | h
          · exact hcs2 d h
          · rw [List.mem_singleton.mp h]; exact let_mem hc2
        · rintro acc H9 hl2 ⟨cs2, rfl, hlen2, hcs2, s⟩
          have hc7 : cs2.length ≤ 7 := by omega
          refine ⟨_, D, cs2.map sg1, rfl, rfl, .inl (SqL.of (by have := s.cell (.head _); rw [List.map_map]; exact this)), ?_, ?_⟩
          · rw [sg_sum, List.length_map, show (Str.ofString "").length = 0 from rfl]; omega
          · rw [jn1]
            walk_at "di"
            have ll : (sg1 c ++ (⟨cs2.toArray⟩ : Str)).cps.toList = c :: cs2 := by rw [app_list]; rfl
            have ln : (sg1 c ++ (⟨cs2.toArray⟩ : Str)).length = cs2.length + 1 := by
              show (sg1 c ++ (⟨cs2.toArray⟩ : Str)).cps.size = _
              rw [← Array.length_toList, ll]; rfl
            refine ⟨Nat.le_of_lt (lt_size (by show 1 + cs2.toArray.size < 100000; rw [List.size_toArray]; omega)), fin _ _ _ (s.drop.draw (.next (.next (.next .here))) (Fr.refl) ((s.box (.tail _ (.tail _ (.tail _ (.tail _ (.head _)))))).less (by omega))) ⟨by rw [ln]; omega, by rw [ln]; omega, fun d hd => ?_⟩ ?_⟩
            · rw [ll] at hd
              rcases List.mem_cons.mp hd with h | h
              · rw [h]; exact hlc
              · exact hcs2 d h
            · rw [if_neg (by omega), ll]; rfl
    · rintro σ H7 ⟨zs, a8, a9, rfl, s7, hzl, hz⟩
      have hzm : zs.length = m := by rw [hzl, List.length_map]; omega
      refine q pf zs H7 ?_ s7.fr ((s7.box (.tail _ (.tail _ (.tail _ (.head _))))).less (by omega)) (s7.cell (.tail _ (.head _))) hzm ?_ fun z hz2 => ?_
      · cases e : H pf with
        | none => rfl
        | some o =>
          exfalso
          by_cases hs : pf = b
          · obtain ⟨xs, e2⟩ := b4.cell
            rw [hs, e2] at hpf; cases hpf
          · rw [s4.fr pf o (fun z => hs (List.mem_singleton.mp z)) e] at hpf; cases hpf
      · refine List.pairwise_iff_getElem.mpr fun j k hj hk hjk he => ?_
        obtain ⟨_, c1, hc1, hp1⟩ := hz j _ (List.getElem?_eq_getElem hj)
        obtain ⟨_, c2, hc2, hp2⟩ := hz k _ (List.getElem?_eq_getElem hk)
        rw [he, hp2] at hp1
        cases hp1
        have := nd_ix hcn hc1 hc2
        omega
      · obtain ⟨j, hj⟩ := List.mem_iff_getElem?.mp hz2
        exact (hz j z hj).1
def LET : Str := "abcdefghijklmnopqrstuvwxyz"
def spIsNum : Sp := fun vs H Q _ => ∃ i : Int, vs = [.int i] ∧ Q (.bl true) H
def spIsName : Sp := fun vs H Q _ => ∃ z, vs = [.str z] ∧ Nm z ∧ ∀ H', Same H H' → Q (.bl true) H'
def spBackOf (K : PySem.W.Frag) (d : Nat) : Sp := fun vs H Q _ => ∃ (p : Addr) (t : Tr), vs = [.ref p] ∧ TrP K H t p ∧ t.walk ∧ t.dep ≤ d ∧ ∀ q H', Same H H' → TrP K H' t.back q → Q (.ref q) H'
def spRep (K : PySem.W.Frag) : Sp := fun vs H Q _ => ∃ (p : Addr) (t : Tr) (n : Nat), vs = [.ref p, .int n] ∧ TrP K H t p ∧ n ≤ 9 ∧ ∀ q H', Same H H' → TrP K H' (t.grp n) q → Q (.ref q) H'
def spParts (K : PySem.W.Frag) : Sp := fun vs H Q _ => ∃ (p : Addr) (t : Tr), vs = [.ref p] ∧ TrP K H t p ∧ ∀ l ps H', H l = none → Same H H' → H' l = some (.lst (ps.map V.ref)) → TrPs K H' t.subs ps → Q (.ref l) H'
def spNames (K : PySem.W.Frag) (d : Nat) : Sp := fun vs H Q _ => ∃ (p : Addr) (t : Tr) (w : Str), vs = [.ref p, .str w] ∧ (w = "step" ∨ w = "marked") ∧ t.ok ∧ TrP K H t p ∧ t.dep ≤ d ∧ (t.told w).length < 64 ∧
  ∀ q ys H', Same H H' → SqT K H' q (ys.map V.str) → sortedS ys = true → ys.Nodup → (∀ z, z ∈ ys ↔ z ∈ t.told w) → Q (.ref q) H'
def spSteps (K : PySem.W.Frag) (d : Nat) : Sp := fun vs H Q _ => ∃ (p : Addr) (t : Tr), vs = [.ref p] ∧ t.ok ∧ TrP K H t p ∧ t.dep ≤ d ∧ ∀ H', Same H H' → Q (.int t.steps) H'
def spTree (K : PySem.W.Frag) (C : Addr) : Sp := fun vs H Q _ => ∃ (a : Addr) (t : Tr), vs = [.ref a] ∧ LkP K H C t a ∧ ∀ p, TrP K H t p → Q (.ref p) H
def spTold (K : PySem.W.Frag) (C : Addr) (w : Str) (d : Nat) : Sp := fun vs H Q _ => ∃ (a : Addr) (t : Tr), vs = [.ref a] ∧ LkP K H C t a ∧ t.ok ∧ t.dep ≤ d ∧ (t.told w).length < 64 ∧
  ∀ q ys H', Same H H' → SqT K H' q (ys.map V.str) → sortedS ys = true → ys.Nodup → (∀ z, z ∈ ys ↔ z ∈ t.told w) → Q (.ref q) H'
def spStepsC (K : PySem.W.Frag) (C : Addr) (d : Nat) : Sp := fun vs H Q _ => ∃ (a : Addr) (t : Tr), vs = [.ref a] ∧ LkP K H C t a ∧ t.ok ∧ t.dep ≤ d ∧ ∀ H', Same H H' → Q (.int t.steps) H'
def spEqC (K : PySem.W.Frag) (C : Addr) : Sp := fun vs H Q _ => ∃ (a : Addr) (t : Tr) (y : V), vs = [.ref a, y] ∧ LkP K H C t a ∧ t.ok ∧ t.dep ≤ 64 ∧
  ((∃ (b : Addr) (s : Tr), y = .ref b ∧ LkP K H C s b ∧ s.ok ∧ s.dep ≤ 64 ∧ Q (.bl (decide (t = s))) H) ∨ ∃ u, TyX K H y u ∧ PySem.W.kitOne K u (.ref C) = some false ∧ Q (.bl false) H)
def spBin (K : PySem.W.Frag) (C : Addr) (w : Str) : Sp := fun vs H Q _ => ∃ (a b : Addr) (t s : Tr), vs = [.ref a, .ref b] ∧ LkP K H C t a ∧ LkP K H C s b ∧ ∀ c H', Same H H' → LkP K H' C (.two w t s) c → Q (.ref c) H'
def spUn (K : PySem.W.Frag) (C D : Addr) (w : Str) : Sp := fun vs H Q _ => ∃ (a : Addr) (t : Tr), vs = [.ref a] ∧ LkP K H C t a ∧ ∀ c H', Same H H' → LkP K H' D (.one w t) c → Q (.ref c) H'
def spNeg (K : PySem.W.Frag) (C : Addr) (d : Nat) : Sp := fun vs H Q _ => ∃ (a : Addr) (t : Tr), vs = [.ref a] ∧ LkP K H C t a ∧ t.walk ∧ t.dep ≤ d ∧ ∀ c H', Same H H' → LkP K H' C t.back c → Q (.ref c) H'
def spPow (K : PySem.W.Frag) (C : Addr) : Sp := fun vs H Q _ => ∃ (a : Addr) (t : Tr) (n : Nat), vs = [.ref a, .int n] ∧ LkP K H C t a ∧ n ≤ 9 ∧ ∀ c H', Same H H' → LkP K H' C (t.grp n) c → Q (.ref c) H'
def spWith (K : PySem.W.Frag) (C C2 D : Addr) (w : Str) : Sp := fun vs H Q _ => ∃ (a b : Addr) (t s : Tr), vs = [.ref a, .ref b] ∧ LkP K H C t a ∧ LkP K H C2 s b ∧ ∀ c H', Same H H' → LkP K H' D (.two w t s) c → Q (.ref c) H'
def spZ (K : PySem.W.Frag) (C : Addr) (w : Str) : Sp := fun vs H Q _ => vs = [] ∧ ∀ c H', Same H H' → LkP K H' C (.z w) c → Q (.ref c) H'
def spMarked (K : PySem.W.Frag) (C : Addr) : Sp := fun vs H Q _ => ∃ z, vs = [.str z] ∧ Nm z ∧ ∀ c H', Same H H' → LkP K H' C (.mk z) c → Q (.ref c) H'
def spStep (K : PySem.W.Frag) (C : Addr) : Sp := fun vs H Q _ => ∃ z, ∃ i : Int, vs = [.str z, .int i] ∧ Nm z ∧ (-9 ≤ i ∧ i ≤ 9) ∧ ∀ c H', Same H H' → LkP K H' C ((Tr.st z (if 0 < i then 1 else -1)).grp i.natAbs) c → Q (.ref c) H'
abbrev s_Ts_init : Stmt := inClass (topS 19) 0
abbrev n_Ts_init : List Str := ["self", "tree"]
theorem sc_Ts_init : FnScope n_Ts_init ["self", "tree"] (defScope s_Ts_init) := ⟨rfl, rfl, rfl, by decide +kernel, rfl, by decide +kernel, by decide +kernel⟩
theorem nm_Ts_init : nvB n_Ts_init (defScope s_Ts_init) 0 "self" = true ∧ nvB n_Ts_init (defScope s_Ts_init) 1 "tree" = true := by decide +kernel
theorem cl_Ts_init {Γ : Gm} {C : Addr} (dfn : DfM Γ C "__init__" "Test.__init__" s_Ts_init ["self", "tree"]) (T : Names Γ) (L : KF Γ "Test" C) : Mt Γ CX0 (1) C "__init__" (spInit C) [] := by
  refine dfn.mt sc_Ts_init (fun vs H Q E h => ?_) (fun f cdv A outer s H vs Q E hg h => ?_)
  · obtain ⟨x, dx, v, rfl, _⟩ := h
    rfl
  obtain ⟨x, dx, v, rfl, hx, q⟩ := h
  have nd := sc_Ts_init.nd
  obtain ⟨v0, v1⟩ := nm_Ts_init
  refine ⟨_, (pss_one (ps_fld (ps 0 v0) (ps 1 v1) rfl)), ?_⟩
  refine st_start (σ := [some _, some _]) rfl ?_
  walk_at "dn"
  exact ⟨x, C, dx, [], rfl, hx, L.k.cls, L.na, by decide, q⟩
abbrev s_Lk_init : Stmt := inClass (topS 20) 0
abbrev n_Lk_init : List Str := ["self", "tree"]
theorem sc_Lk_init : FnScope n_Lk_init ["self", "tree"] (defScope s_Lk_init) := ⟨rfl, rfl, rfl, by decide +kernel, rfl, by decide +kernel, by decide +kernel⟩
theorem nm_Lk_init : nvB n_Lk_init (defScope s_Lk_init) 0 "self" = true ∧ nvB n_Lk_init (defScope s_Lk_init) 1 "tree" = true := by decide +kernel
theorem cl_Lk_init {Γ : Gm} {C : Addr} (dfn : DfM Γ C "__init__" "Look.__init__" s_Lk_init ["self", "tree"]) (T : Names Γ) (L : KF Γ "Look" C) : Mt Γ CX0 (1) C "__init__" (spInit C) [] := by
  refine dfn.mt sc_Lk_init (fun vs H Q E h => ?_) (fun f cdv A outer s H vs Q E hg h => ?_)
  · obtain ⟨x, dx, v, rfl, _⟩ := h
    rfl
  obtain ⟨x, dx, v, rfl, hx, q⟩ := h
  have nd := sc_Lk_init.nd
  obtain ⟨v0, v1⟩ := nm_Lk_init
  refine ⟨_, (pss_one (ps_fld (ps 0 v0) (ps 1 v1) rfl)), ?_⟩
  refine st_start (σ := [some _, some _]) rfl ?_
  walk_at "dn"
  exact ⟨x, C, dx, [], rfl, hx, L.k.cls, L.na, by decide, q⟩
/-- letters -/
def isL (c : Nat) : Bool := decide (97 ≤ c ∧ c ≤ 122)
def runL : List Nat → Nat
  | [] => 0
  | c :: r => if isL c = true then runL r + 1 else 0
theorem runL_le : ∀ cs : List Nat, runL cs ≤ cs.length
  | [] => Nat.le_refl _
  | c :: r => by
    have := runL_le r
    unfold runL
    split <;> simp only [List.length_cons] <;> omega
theorem runL_in : ∀ {cs : List Nat} {i c : Nat}, i < runL cs → cs[i]? = some c → isL c = true
  | [], i, c, h, _ => by simp [runL] at h
  | d :: r, i, c, h, e => by
    unfold runL at h
    split at h
    · rename_i hd
      cases i with
      | zero => cases e; exact hd
      | succ i => exact runL_in (cs := r) (by omega) e
    · omega
theorem runL_at : ∀ {cs : List Nat} {c : Nat}, cs[runL cs]? = some c → isL c = false
  | [], c, e => by simp at e
  | d :: r, c, e => by
    unfold runL at e
    split at e
    · rename_i hd
      exact runL_at (cs := r) e
    · rename_i hd
      cases e
      simpa using hd
theorem letB (c : Nat) : decide (c ∈ LET.cps.toList) = isL c := by
  have key : ∀ n : Fin 26, decide (97 + n.val ∈ LET.cps.toList) = true := by decide +kernel
  have all : ∀ x ∈ LET.cps.toList, 97 ≤ x ∧ x ≤ 122 := by decide +kernel
  unfold isL
  by_cases h : 97 ≤ c ∧ c ≤ 122
  · rw [decide_eq_true h]
    have := key ⟨c - 97, by omega⟩
    rw [show 97 + (c - 97) = c from by omega] at this
    exact this
  · rw [decide_eq_false h, decide_eq_false fun z => h (all c z)]
def spRun : Sp := fun vs H Q _ => ∃ (cs : List Nat) (at_ : Nat), vs = [.str (tx cs), .int at_] ∧ cs.length < 100000 ∧ at_ ≤ cs.length ∧ Q (.int (runL (cs.drop at_))) H
/-- the symbol that begins here -/
def sgnB (c : Nat) : Bool := decide (c ∈ ((Str.ofString "()[],|&^~").cps.toList))
def symA (cs : List Nat) : List Nat := match cs with
  | [] => []
  | c :: _ => if sgnB c = true then [c] else if cs.take 2 = [62, 62] then [62, 62] else
    let f := if c = 43 ∨ c = 45 then 1 else 0
    let s := runL (cs.drop f)
    if 1 ≤ s ∧ s ≤ 8 then cs.take (f + s) else []
theorem symA_c (c : Nat) (r : List Nat) : symA (c :: r) = if sgnB c = true then [c] else if (c :: r).take 2 = [62, 62] then [62, 62] else
    if 1 ≤ runL ((c :: r).drop (if c = 43 ∨ c = 45 then 1 else 0)) ∧ runL ((c :: r).drop (if c = 43 ∨ c = 45 then 1 else 0)) ≤ 8 then (c :: r).take ((if c = 43 ∨ c = 45 then 1 else 0) + runL ((c :: r).drop (if c = 43 ∨ c = 45 then 1 else 0))) else [] := rfl
theorem plusB (c : Nat) : decide ((⟨#[c]⟩ : Str) ∈ [Str.ofString "+", Str.ofString "-"]) = decide (c = 43 ∨ c = 45) := by
  refine decide_eq_decide.mpr ?_
  have e1 : Str.ofString "+" = (⟨#[43]⟩ : Str) := by decide +kernel
  have e2 : Str.ofString "-" = (⟨#[45]⟩ : Str) := by decide +kernel
  rw [e1, e2]
  simp
def spSymAt : Sp := fun vs H Q _ => ∃ (cs : List Nat) (at_ : Nat), vs = [.str (tx cs), .int at_] ∧ cs.length < 100000 ∧ at_ < cs.length ∧ ∀ H', Same H H' → Q (.str (tx (symA (cs.drop at_)))) H'
abbrev s_runlen : Stmt := topS 27
abbrev n_runlen : List Str := ["text", "at", "size"]
theorem sc_runlen : FnScope n_runlen ["text", "at"] (defScope s_runlen) := ⟨rfl, rfl, rfl, by decide +kernel, rfl, by decide +kernel, by decide +kernel⟩
theorem nm_runlen : nvB n_runlen (defScope s_runlen) 0 "text" = true ∧ nvB n_runlen (defScope s_runlen) 1 "at" = true ∧ nvB n_runlen (defScope s_runlen) 2 "size" = true ∧ lvB n_runlen (defScope s_runlen) 2 "size" = true ∧ gvB (defScope s_runlen) "LETTERS" = true ∧ gvB (defScope s_runlen) "len" = true := by decide +kernel
theorem cl_runlen {Γ : Gm} (dfn : Dfn Γ "run_length" s_runlen ["text", "at"]) (T : Names Γ) (gc_LETTERS : ∃ u, Γ.mg "LETTERS" = some u ∧ RelV (.str LET) u) : Cl Γ CX0 (1) "run_length" spRun [] := by
  refine dfn.cl sc_runlen (fun vs H Q E h => ?_) (fun f cdv A outer s H vs Q E hg h => ?_)
  · obtain ⟨cs, at_, rfl, _⟩ := h
    rfl
  obtain ⟨cs, at_, rfl, hz, ha, q⟩ := h
  have nd := sc_runlen.nd
  obtain ⟨v0, v1, v2, l2, g_LETTERS, g_len⟩ := nm_runlen
  refine ⟨_, (pss_cons (pst (i := 2) nd l2 pe_int)
    (pss_cons (ps_while PassesOwn.never (PW.pt (pw_andB (pt_cm (k_lt hg) (pe_op (k_add hg) (ps 1 v1) (ps 2 v2)) (pcb (k_len hg) g_len T.n_len bt_len (pa_cons (ps 0 v0) pa_nil)) (nomark _)) (pw_and1 (pt_cm (WO.ok hg) (pe_ix (WX.ok hg) (ps 0 v0) (pe_op (k_add hg) (ps 1 v1) (ps 2 v2)) (fun _ _ => rfl)) (C8.pe_gc (gv_of g_LETTERS).1 gc_LETTERS) (by with_unfolding_all rfl)))))
    (pss_one (ps_aug (i := 2) nd rfl (by first | exact .inl rfl | exact .inr rfl) pe_int (WI.ok hg))))
    (pss_one (ps_ret (ps 2 v2))))), ?_⟩
  refine st_start (σ := [some _, some _, none]) rfl ?_
  walk_at "dn"
  refine ⟨fun k σ H2 => ∃ i : Nat, σ = [some (.str (tx cs)), some (.int at_), some (.int i)] ∧ H2 = H ∧ i ≤ runL (cs.drop at_) ∧ k = cs.length - i, ⟨_, 0, rfl, rfl, Nat.zero_le _, rfl⟩, ?_⟩
  rintro k σ H2 ⟨i, rfl, rfl, hi, rfl⟩
  have hr := runL_le (cs.drop at_)
  rw [List.length_drop] at hr
  walk_at "dn"
  refine ⟨szl (by rw [tx_len]; omega), ?_⟩
  rw [tx_len]
  have lt_ : i < runL (cs.drop at_) ∨ i = runL (cs.drop at_) := by omega
  refine br_d (fun h => ?_) (fun h => ?_)
  · have hl : at_ + i < cs.length := by omega
    obtain ⟨c, hc⟩ : ∃ c, cs[at_ + i]? = some c := ⟨_, List.getElem?_eq_getElem hl⟩
    have hd : (cs.drop at_)[i]? = some c := by rw [List.getElem?_drop]; exact hc
    rw [show (at_ : Int) + (i : Int) = ((at_ + i : Nat) : Int) from by omega]
    refine wx_tx (szl (by omega)) hc (wo_in1 ?_)
    rw [letB]
    walk_at "di"
    cases hL : isL c with
    | true =>
      have hlt : i < runL (cs.drop at_) := by
        rcases lt_ with h | h
        · exact h
        · rw [h] at hd
          rw [runL_at hd] at hL
          cases hL
      rw [if_pos rfl]
      refine ⟨fun σ' H' => σ' = [some (.str (tx cs)), some (.int at_), some (.int (i + 1 : Nat))] ∧ H' = H2, fun σ' H' ⟨e, e2⟩ => ⟨cs.length - (i + 1), by omega, i + 1, e, e2, by omega, rfl⟩, _, rfl, ?_⟩
      exact wi_add ⟨rfl, rfl⟩
    | false =>
      rw [if_neg (by decide)]
      have e : i = runL (cs.drop at_) := by
        rcases lt_ with h | h
        · rw [runL_in h hd] at hL; cases hL
        · exact h
      rw [e]
      exact q
  · rw [if_neg (by decide)]
    have e : i = runL (cs.drop at_) := by
      rcases lt_ with h2 | h2
      · omega
      · exact h2
    rw [e]
    exact q
abbrev s_symat : Stmt := topS 28
abbrev n_symat : List Str := ["text", "at", "sign", "first", "size"]
theorem sc_symat : FnScope n_symat ["text", "at"] (defScope s_symat) := ⟨rfl, rfl, rfl, by decide +kernel, rfl, by decide +kernel, by decide +kernel⟩
theorem nm_symat : nvB n_symat (defScope s_symat) 0 "text" = true ∧ nvB n_symat (defScope s_symat) 1 "at" = true ∧ nvB n_symat (defScope s_symat) 2 "sign" = true ∧ nvB n_symat (defScope s_symat) 3 "first" = true ∧ nvB n_symat (defScope s_symat) 4 "size" = true ∧ lvB n_symat (defScope s_symat) 2 "sign" = true ∧ lvB n_symat (defScope s_symat) 3 "first" = true ∧ lvB n_symat (defScope s_symat) 4 "size" = true ∧ gvB (defScope s_symat) "SIGNS" = true ∧ gvB (defScope s_symat) "run_length" = true := by decide +kernel
theorem cl_symat {Γ : Gm} (dfn : Dfn Γ "symbol_at" s_symat ["text", "at"]) (T : Names Γ) (gc_SIGNS : ∃ u, Γ.mg "SIGNS" = some u ∧ RelV (.str (Str.ofString "()[],|&^~")) u) (c_run_length : Cl Γ CX0 1 "run_length" spRun []) : Cl Γ CX0 (3) "symbol_at" spSymAt [] := by
  refine dfn.cl sc_symat (fun vs H Q E h => ?_) (fun f cdv A outer s H vs Q E hg h => ?_)
  · obtain ⟨cs, at_, rfl, _⟩ := h
    rfl
  obtain ⟨cs, at_, rfl, hz, ha, q⟩ := h
  have nd := sc_symat.nd
  obtain ⟨v0, v1, v2, v3, v4, l2, l3, l4, g_SIGNS, g_run_length⟩ := nm_symat
  refine ⟨_, (pss_cons (pst (i := 2) nd l2 (pe_ix (WX.ok hg) (ps 0 v0) (ps 1 v1) (fun _ _ => rfl)))
    (pss_cons (ps_ifB (pt_cm (WO.ok hg) (ps 2 v2) (C8.pe_gc (gv_of g_SIGNS).1 gc_SIGNS) (by with_unfolding_all rfl))
    (pss_one (ps_ret (ps 2 v2)))
    pss_nil)
    (pss_cons (ps_ifB (pt_cm (k_eq hg) (pe_slice (WL.ok hg) (ps 0 v0) (po_pt (ps 1 v1)) (po_pt (pe_op (k_add hg) (ps 1 v1) pe_int))) pe_str (nomark _))
    (pss_one (ps_ret pe_str))
    pss_nil)
    (pss_cons (pst (i := 3) nd l3 (pe_ifB (pt_cm (WO.ok hg) (ps 2 v2) (pe_tup (pa_cons pe_str (pa_cons pe_str pa_nil))) (by with_unfolding_all rfl)) pe_int pe_int))
    (pss_cons (pst (i := 4) nd l4 (pcl c_run_length hg (by omega) g_run_length pass0 (pa_cons (ps 0 v0) (pa_cons (pe_op (k_add hg) (ps 1 v1) (ps 3 v3)) pa_nil))))
    (pss_one (ps_ret (pe_ifB (pt_ch (k_le hg) (k_le hg) pe_int (ps 4 v4) pe_int) (pe_slice (WL.ok hg) (ps 0 v0) (po_pt (ps 1 v1)) (po_pt (pe_op (k_add hg) (pe_op (k_add hg) (ps 1 v1) (ps 3 v3)) (ps 4 v4)))) pe_str)))))))), ?_⟩
  refine st_start (σ := [some _, some _, none, none, none]) rfl ?_
  walk_at "dn"
  obtain ⟨c, hc⟩ : ∃ c, cs[at_]? = some c := ⟨_, List.getElem?_eq_getElem ha⟩
  obtain ⟨r, hr⟩ : ∃ r, cs.drop at_ = c :: r := ⟨cs.drop (at_ + 1), by rw [List.drop_eq_getElem_cons ha]; rw [List.getElem?_eq_getElem ha] at hc; cases hc; rfl⟩
  have hsz := szl (n := cs.length) (by omega)
  refine wx_tx hsz hc (wo_in1 ?_)
  rw [hr] at q
  walk_at "di"
  refine br_b (fun h1 => ?_) (fun h1 => ?_)
  · have e : symA (c :: r) = [c] := by rw [symA_c, if_pos (show sgnB c = true from h1)]
    rw [e] at q
    exact q H (Same.refl _)
  have h1 : ¬ sgnB c = true := by
    have h1 : sgnB c = false := h1
    rw [h1]; decide
  refine wl_s (by rw [tx_len]; exact hsz) ?_
  have e2 : cutS (tx cs) (some (at_ : Int)) (some ((at_ : Int) + 2)) = tx ((c :: r).take 2) := by
    rw [show (at_ : Int) + 2 = ((at_ + 2 : Nat) : Int) from by omega, cut_tx, hr]
    congr 2
    omega
  rw [e2]
  walk_at "di"
  have e62 : Str.ofString ">>" = tx [62, 62] := by decide +kernel
  refine br_d (fun h2 => ?_) (fun h2 => ?_)
  · have e : symA (c :: r) = [62, 62] := by rw [symA_c, if_neg h1, if_pos (tx_inj (h2.trans e62))]
    rw [e, ← e62] at q
    exact q H (Same.refl _)
  have h2 : ¬ (c :: r).take 2 = [62, 62] := fun z => h2 (by rw [z, e62])
  refine ⟨szl (by simp only [List.length_cons, List.length_nil]; omega), fun p hp => ?_⟩
  have sp := Same.mk (o := .tup [.str "+", .str "-"]) hp
  refine wo_inS (xs := [Str.ofString "+", Str.ofString "-"]) (.inr (SqT.of upd_same)) ?_
  rw [plusB]
  walk_at "di"
  refine br_d (fun hf => ?_) (fun hf => ?_)
  · have e : symA (c :: r) = if 1 ≤ runL ((c :: r).drop 1) ∧ runL ((c :: r).drop 1) ≤ 8 then (c :: r).take (1 + runL ((c :: r).drop 1)) else [] := by
      rw [symA_c, if_neg h1, if_neg h2, if_pos hf]
    rw [e] at q
    have ed : cs.drop (at_ + 1) = (c :: r).drop 1 := by rw [← hr, List.drop_drop]
    rw [show (at_ : Int) + 1 = ((at_ + 1 : Nat) : Int) from by omega]
    refine ⟨cs, at_ + 1, rfl, hz, by omega, ?_⟩
    rw [ed]
    generalize hn : runL ((c :: r).drop 1) = n at q
    walk_at "di"
    refine br_d (fun g1 => ?_) (fun g1 => ?_)
    · walk_at "di"
      refine br_d (fun g2 => ?_) (fun g2 => ?_)
      · walk_at "di"
        refine wl_s (by rw [tx_len]; exact hsz) ?_
        rw [if_pos ⟨by omega, by omega⟩] at q
        rw [show (((at_ + 1 : Nat) : Int) + (n : Int)) = ((at_ + 1 + n : Nat) : Int) from by omega, cut_tx, hr, show at_ + 1 + n - at_ = 1 + n from by omega]
        exact q _ sp
      · rw [if_neg (fun z => g2 (by omega))] at q
        exact q _ sp
    · rw [if_neg (fun z => g1 (by omega))] at q
      exact q _ sp
  · have e : symA (c :: r) = if 1 ≤ runL ((c :: r).drop 0) ∧ runL ((c :: r).drop 0) ≤ 8 then (c :: r).take (0 + runL ((c :: r).drop 0)) else [] := by
      rw [symA_c, if_neg h1, if_neg h2, if_neg hf]
    rw [e] at q
    have ed : cs.drop (at_ + 0) = (c :: r).drop 0 := by rw [← hr, List.drop_drop]
    rw [show (at_ : Int) + 0 = ((at_ + 0 : Nat) : Int) from by omega]
    refine ⟨cs, at_ + 0, rfl, hz, by omega, ?_⟩
    rw [ed]
    generalize hn : runL ((c :: r).drop 0) = n at q
    walk_at "di"
    refine br_d (fun g1 => ?_) (fun g1 => ?_)
    · walk_at "di"
      refine br_d (fun g2 => ?_) (fun g2 => ?_)
      · walk_at "di"
        refine wl_s (by rw [tx_len]; exact hsz) ?_
        rw [if_pos ⟨by omega, by omega⟩] at q
        rw [show (((at_ + 0 : Nat) : Int) + (n : Int)) = ((at_ + 0 + n : Nat) : Int) from by omega, cut_tx, hr, show at_ + 0 + n - at_ = 0 + n from by omega]
        exact q _ sp
      · rw [if_neg (fun z => g2 (by omega))] at q
        exact q _ sp
    · rw [if_neg (fun z => g1 (by omega))] at q
      exact q _ sp
theorem symA_len (cs : List Nat) : (symA cs).length ≤ cs.length := by
  cases cs with
  | nil => exact Nat.le_refl _
  | cons c r =>
    rw [symA_c]
    generalize (if c = 43 ∨ c = 45 then 1 else 0) = f
    split
    · simp
    split
    · rename_i h
      have := congrArg List.length h
      rw [List.length_take] at this
      simp only [List.length_cons, List.length_nil] at this ⊢
      omega
    split
    · rw [List.length_take]; omega
    · exact Nat.zero_le _
/-- all symbols, each with its place; the last one is no symbol -/
def lexA : Nat → Nat → List Nat → List (List Nat × Nat)
  | 0, at_, _ => [([], at_)]
  | _ + 1, at_, [] => [([], at_)]
  | f + 1, at_, c :: r => if c = 32 then lexA f (at_ + 1) r else if symA (c :: r) = [] then [([], at_)] else (symA (c :: r), at_) :: lexA f (at_ + (symA (c :: r)).length) ((c :: r).drop (symA (c :: r)).length)
def lexT (cs : List Nat) : List (List Nat × Nat) := lexA (cs.length + 1) 0 cs
/-- the fuel does not matter -/
theorem lexA_fuel : ∀ {f g at_ : Nat} {cs : List Nat}, cs.length < f → cs.length < g → lexA f at_ cs = lexA g at_ cs
  | 0, _, _, _, h, _ => absurd h (Nat.not_lt_zero _)
  | _, 0, _, _, _, h => absurd h (Nat.not_lt_zero _)
  | f + 1, g + 1, at_, [], _, _ => rfl
  | f + 1, g + 1, at_, c :: r, h1, h2 => by
    unfold lexA
    simp only [List.length_cons] at h1 h2
    split
    · exact lexA_fuel (by omega) (by omega)
    split
    · rfl
    · rename_i hn
      have : 0 < (symA (c :: r)).length := List.length_pos_iff.mpr hn
      rw [lexA_fuel (f := f) (g := g) (by rw [List.length_drop]; simp only [List.length_cons]; omega) (by rw [List.length_drop]; simp only [List.length_cons]; omega)]
structure SyP (K : PySem.W.Frag) (H : Hp) (ts : List Addr) (ss : List (List Nat × Nat)) : Prop where
  len : ts.length = ss.length
  at_ : ∀ (i : Nat) (t : Addr) (s : List Nat × Nat), ts[i]? = some t → ss[i]? = some s → SqT K H t [.str (tx s.1), .int (s.2 : Nat)]
def syF {Γ : Gm} (ts : List Addr) (ss : List (List Nat × Nat)) : PF (E1 Γ) := ⟨fun H => SyP Γ.K H ts ss, fun H H' k h => ⟨h.len, fun i t e a b => sqt_loc k (h.at_ i t e a b)⟩⟩
theorem syF_app {Γ : Gm} {ts : List Addr} {ss : List (List Nat × Nat)} {t : Addr} {s : List Nat × Nat} {H : Hp} (h : SyP Γ.K H ts ss) (k : SqT Γ.K H t [.str (tx s.1), .int (s.2 : Nat)]) : SyP Γ.K H (ts ++ [t]) (ss ++ [s]) := by
  have e := h.len
  refine ⟨by rw [List.length_append, List.length_append, e]; rfl, fun i x y hx hy => ?_⟩
  by_cases hi : i < ts.length
  · rw [List.getElem?_append_left hi] at hx
    rw [List.getElem?_append_left (by omega)] at hy
    exact h.at_ i x y hx hy
  · rw [List.getElem?_append_right (by omega)] at hx hy
    have hj : i - ts.length = 0 := by
      have := (List.getElem?_eq_some_iff.mp hx).1
      simp only [List.length_singleton] at this
      omega
    rw [hj] at hx
    rw [← e, hj] at hy
    cases hx
    cases hy
    exact k
def spSyms (K : PySem.W.Frag) : Sp := fun vs H Q _ => ∃ cs : List Nat, vs = [.str (tx cs)] ∧ cs.length < 100000 ∧ ∀ p ts H', H p = none → Same H H' → H' p = some (.lst (ts.map V.ref)) → SyP K H' ts (lexT cs) → Q (.ref p) H'
abbrev s_symsof : Stmt := topS 29
abbrev n_symsof : List Str := ["text", "found", "at", "symbol"]
theorem sc_symsof : FnScope n_symsof ["text"] (defScope s_symsof) := ⟨rfl, rfl, rfl, by decide +kernel, rfl, by decide +kernel, by decide +kernel⟩
theorem nm_symsof : nvB n_symsof (defScope s_symsof) 0 "text" = true ∧ nvB n_symsof (defScope s_symsof) 1 "found" = true ∧ nvB n_symsof (defScope s_symsof) 2 "at" = true ∧ nvB n_symsof (defScope s_symsof) 3 "symbol" = true ∧ lvB n_symsof (defScope s_symsof) 1 "found" = true ∧ lvB n_symsof (defScope s_symsof) 2 "at" = true ∧ lvB n_symsof (defScope s_symsof) 3 "symbol" = true ∧ gvB (defScope s_symsof) "len" = true ∧ gvB (defScope s_symsof) "symbol_at" = true := by decide +kernel
theorem cl_symsof {Γ : Gm} (dfn : Dfn Γ "symbols_of" s_symsof ["text"]) (T : Names Γ) (c_symbol_at : Cl Γ CX0 3 "symbol_at" spSymAt []) : Cl Γ CX0 (4) "symbols_of" (spSyms Γ.K) [] := by
  refine dfn.cl sc_symsof (fun vs H Q E h => ?_) (fun f cdv A outer s H vs Q E hg h => ?_)
  · obtain ⟨cs, rfl, _⟩ := h
    rfl
  obtain ⟨cs, rfl, hz, q⟩ := h
  have nd := sc_symsof.nd
  obtain ⟨v0, v1, v2, v3, l1, l2, l3, g_len, g_symbol_at⟩ := nm_symsof
  refine ⟨_, (pss_cons (pst (i := 1) nd l1 (pe_lst pa_nil))
    (pss_cons (pst (i := 2) nd l2 pe_int)
    (pss_cons (ps_while PassesOwn.never (pt_cm (k_lt hg) (ps 2 v2) (pcb (k_len hg) g_len T.n_len bt_len (pa_cons (ps 0 v0) pa_nil)) (nomark _))
    (pss_cons (ps_ifB (pt_cm (k_eq hg) (pe_ix (WX.ok hg) (ps 0 v0) (ps 2 v2) (fun _ _ => rfl)) pe_str (nomark _))
    (pss_cons (ps_aug (i := 2) nd rfl (by first | exact .inl rfl | exact .inr rfl) pe_int (WI.ok hg))
    (pss_one ps_continue))
    pss_nil)
    (pss_cons (pst (i := 3) nd l3 (pcl c_symbol_at hg (by omega) g_symbol_at pass0 (pa_cons (ps 0 v0) (pa_cons (ps 2 v2) pa_nil))))
    (pss_cons (ps_expr (pe_bmK hg PySem.F.plainAttrs_list PySem.F.slot_list_append PySem.F.type_list_append mt_append (ps 1 v1) (pa_cons (pe_tup (pa_cons (ps 3 v3) (pa_cons (ps 2 v2) pa_nil))) pa_nil)))
    (pss_cons (ps_ifB (pt_not (pt_tr hg (ps 3 v3)))
    (pss_one (ps_ret (ps 1 v1)))
    pss_nil)
    (pss_one (ps_aug (i := 2) nd rfl (by first | exact .inl rfl | exact .inr rfl) (pcb (k_len hg) g_len T.n_len bt_len (pa_cons (ps 3 v3) pa_nil)) (WI.ok hg))))))))
    (pss_one (ps_ret (pe_op (k_add hg) (ps 1 v1) (pe_lst (pa_cons (pe_tup (pa_cons pe_str (pa_cons (pcb (k_len hg) g_len T.n_len bt_len (pa_cons (ps 0 v0) pa_nil)) pa_nil))) pa_nil)))))))), ?_⟩
  refine st_start (σ := [some _, none, none, none]) rfl ?_
  walk_at "dn"
  refine ⟨szl (by simp only [List.length_nil]; omega), fun p hp => ?_⟩
  refine ⟨fun k σ H2 => ∃ (i : Nat) (ts : List Addr) (ss : List (List Nat × Nat)) (a3 : Option V), σ = [some (.str (tx cs)), some (.ref p), some (.int i), a3] ∧ i ≤ cs.length ∧ ss.length ≤ i ∧ ss ++ lexA (cs.length + 1 - i) i (cs.drop i) = lexT cs ∧ k = cs.length - i ∧ SS (E1 Γ) H [] H2 [syF ts ss] [lstR p (ts.map V.ref)],
    ⟨_, 0, [], [], _, rfl, Nat.zero_le _, Nat.le_refl _, by rw [List.nil_append, List.drop_zero, Nat.sub_zero]; rfl, rfl, (SS.start0.newC (o := .lst []) hp (fun z => z)).add (syF [] []) ⟨rfl, fun i t e h => by simp at h⟩⟩, ?_⟩
  rintro k σ H2 ⟨i, ts, ss, a3, rfl, hi, hss, hlex, rfl, s2⟩
  walk_at "dn"
  have hsz := szl (n := cs.length) (by omega)
  refine ⟨by rw [tx_len]; exact hsz, ?_⟩
  rw [tx_len]
  have hln : ts.length = ss.length := (show SyP Γ.K H2 ts ss from s2.f (syF ts ss) (.head _)).len
  by_cases hlt : i < cs.length
  · rw [if_pos (decide_eq_true (by omega))]
    obtain ⟨c, hc⟩ : ∃ c, cs[i]? = some c := ⟨_, List.getElem?_eq_getElem hlt⟩
    obtain ⟨r, hr⟩ : ∃ r, cs.drop i = c :: r := ⟨cs.drop (i + 1), by rw [List.drop_eq_getElem_cons hlt]; rw [List.getElem?_eq_getElem hlt] at hc; cases hc; rfl⟩
    have hr1 : cs.drop (i + 1) = r := by
      have := congrArg (List.drop 1) hr
      rwa [List.drop_drop, List.drop_one, List.tail_cons, ] at this
    have hlr : r.length + 1 + i = cs.length := by
      have := congrArg List.length hr
      rw [List.length_drop, List.length_cons] at this
      omega
    rw [hr, show cs.length + 1 - i = (cs.length - i) + 1 from by omega] at hlex
    unfold lexA at hlex
    refine ⟨fun σ' H' => ∃ (i' : Nat) (ts : List Addr) (ss : List (List Nat × Nat)) (a3 : Option V), σ' = [some (.str (tx cs)), some (.ref p), some (.int i'), a3] ∧ i < i' ∧ i' ≤ cs.length ∧ ss.length ≤ i' ∧ ss ++ lexA (cs.length + 1 - i') i' (cs.drop i') = lexT cs ∧ SS (E1 Γ) H [] H' [syF ts ss] [lstR p (ts.map V.ref)], fun σ' H' ⟨i', ts, ss, a3, e, h1, h2, h3, h4, h5⟩ => ⟨cs.length - i', by omega, i', ts, ss, a3, e, h2, h3, h4, rfl, h5⟩, ?_⟩
    refine wx_tx hsz hc ?_
    walk_at "di"
    have e32 : ((⟨#[c]⟩ : Str) = Str.ofString " ") ↔ c = 32 := by
      have : Str.ofString " " = (⟨#[32]⟩ : Str) := by decide +kernel
      rw [this]
      simp
    refine br_d (fun h => ?_) (fun h => ?_)
    · have h := e32.mp h
      rw [if_pos h] at hlex
      refine ⟨_, rfl, wi_add ⟨i + 1, ts, ss, _, rfl, by omega, by omega, by omega, ?_, s2⟩⟩
      rw [hr1, ← hlex]
      congr 1
      exact lexA_fuel (by omega) (by omega)
    · have h : c ≠ 32 := fun z => h (e32.mpr z)
      rw [if_neg h] at hlex
      refine ⟨cs, i, rfl, hz, hlt, fun H3 s3 => ?_⟩
      rw [hr]
      have s4 := s2.same s3
      refine ⟨ty_l (SqL.of (s4.cell (p := p) (b := false) (.head _))), szl (by simp only [List.length_cons, List.length_nil]; omega), fun T hT => ?_⟩
      have s5 := s4.newT (xs := [.str (tx (symA (c :: r))), .int i]) hT
      refine ap_ss s5 .here (lt_size (by rw [List.length_map, hln]; omega)) fun H4 s6 => ?_
      have s7 := (s6.add (syF (ts ++ [T]) (ss ++ [(symA (c :: r), i)])) (syF_app (s6.f (syF ts ss) (.tail _ (.head _))) (s6.tup (.head _)))).sub (F' := [syF (ts ++ [T]) (ss ++ [(symA (c :: r), i)])]) fun w hw => by rw [List.mem_singleton.mp hw]; exact .head _
      have e7 : ts.map V.ref ++ [V.ref T] = (ts ++ [T]).map V.ref := by rw [List.map_append]; rfl
      rw [e7] at s7
      have hsl := symA_len (c :: r)
      rw [List.length_cons] at hsl
      walk_at "di"
      refine ⟨by rw [tx_len]; exact szl (by omega), ?_⟩
      rw [tx_len]
      by_cases hs : symA (c :: r) = []
      · rw [if_pos hs] at hlex
        rw [show ((((symA (c :: r)).length : Nat) : Int) != 0) = false from by rw [hs]; rfl]
        walk_at "di"
        have hsy : SyP Γ.K H4 (ts ++ [T]) (ss ++ [(symA (c :: r), i)]) := s7.f (syF (ts ++ [T]) (ss ++ [(symA (c :: r), i)])) (.head _)
        rw [hs, hlex] at hsy
        exact q p (ts ++ [T]) H4 hp s7.fr.same (s7.cell (.head _)) hsy
      · rw [if_neg hs] at hlex
        have hpos : 0 < (symA (c :: r)).length := List.length_pos_iff.mpr hs
        rw [show ((((symA (c :: r)).length : Nat) : Int) != 0) = true from by simp; omega]
        walk_at "di"
        refine ⟨_, rfl, szl (by omega), ?_⟩
        refine wi_add ⟨i + (symA (c :: r)).length, ts ++ [T], ss ++ [(symA (c :: r), i)], _, by rw [Int.natCast_add], by omega, by omega, by rw [List.length_append, List.length_singleton]; omega, ?_, s7⟩
        rw [List.append_assoc, ← hlex]
        congr 1
        show (symA (c :: r), i) :: _ = _
        congr 1
        have ed : cs.drop (i + (symA (c :: r)).length) = (c :: r).drop (symA (c :: r)).length := by rw [← hr, List.drop_drop]
        rw [ed]
        exact lexA_fuel (by rw [List.length_drop, List.length_cons]; omega) (by rw [List.length_drop, List.length_cons]; omega)
  · rw [if_neg (by simpa using hlt)]
    obtain rfl : i = cs.length := by omega
    refine ⟨hsz, szl (by simp only [List.length_cons, List.length_nil]; omega), fun T hT => ⟨szl (by simp only [List.length_cons, List.length_nil]; omega), fun p2 hp2 => ?_⟩⟩
    rw [List.drop_of_length_le (Nat.le_refl _), show cs.length + 1 - cs.length = 0 + 1 from by omega] at hlex
    unfold lexA at hlex
    have s3 := s2.newT (xs := [.str (Str.ofString ""), .int cs.length]) hT
    have s4 := s3.newC (o := .lst [.ref T]) hp2 (fun z => z)
    refine wo_cat (s4.cell (p := p) (b := false) (.tail _ (.head _))) (s4.cell (p := p2) (b := false) (.head _)) (szl (by rw [List.length_map, hln]; simp only [List.length_cons, List.length_nil]; omega)) fun p3 hp3 => ?_
    have s5 := s4.newC (o := .lst (ts.map V.ref ++ [V.ref T])) hp3 (fun z => z)
    have e7 : ts.map V.ref ++ [V.ref T] = (ts ++ [T]).map V.ref := by rw [List.map_append]; rfl
    have n3 : H p3 = none := by
      cases e : H p3 with
      | none => rfl
      | some o => rw [s4.fr.same _ _ e] at hp3; cases hp3
    have e0 : Str.ofString "" = tx [] := by decide +kernel
    have hsy : SyP Γ.K _ (ts ++ [T]) (ss ++ [([], cs.length)]) := syF_app (s5.f (syF ts ss) (.tail _ (.head _))) (by rw [← e0]; exact s5.tup (.head _))
    rw [hlex] at hsy
    refine q p3 (ts ++ [T]) _ n3 s5.fr.same (by rw [← e7]; exact upd_same) hsy
structure RAd where
  a : Addr
  dx : Addr
  p : Addr
  ts : List Addr
  ss : List (List Nat × Nat)
  n : Nat
def RAd.fs (A : RAd) (i : Nat) : List (Str × V) := [("symbols", .ref A.p), ("place", .int i), ("last", .int A.n)]
/-- a reader that stands at the symbol i -/
structure RdP (K : PySem.W.Frag) (C : Addr) (A : RAd) (i : Nat) (H : Hp) : Prop where
  ins : H A.a = some (.ins C A.dx (A.fs i))
  ls : H A.p = some (.lst (A.ts.map V.ref))
  sy : SyP K H A.ts A.ss
theorem RdP.same {K : PySem.W.Frag} {C : Addr} {A : RAd} {i : Nat} {H H' : Hp} (h : RdP K C A i H) (s : Same H H') : RdP K C A i H' := ⟨s _ _ h.ins, s _ _ h.ls, h.sy.len, fun i t e a b => (Fr.of (S := []) s).sqt (h.sy.at_ i t e a b) List.not_mem_nil⟩
theorem RdP.go {K : PySem.W.Frag} {C : Addr} {A : RAd} {i j : Nat} {H : Hp} (h : RdP K C A i H) : RdP K C A j (upd H A.a (.ins C A.dx (A.fs j))) := by
  have np : A.p ≠ A.a := fun e => by have := h.ls; rw [e, h.ins] at this; cases this
  refine ⟨upd_same, by rw [upd_ne np]; exact h.ls, h.sy.len, fun i t e a b => sqt_fr1 (h.sy.at_ i t e a b) (Fr.upd (.head _)) h.ins⟩
theorem RdP.at_ {K : PySem.W.Frag} {C : Addr} {A : RAd} {i : Nat} {H : Hp} (h : RdP K C A i H) {s : List Nat × Nat} (hs : A.ss[i]? = some s) : ∃ t, (A.ts.map V.ref)[i]? = some (.ref t) ∧ SqT K H t [.str (tx s.1), .int (s.2 : Nat)] := by
  obtain ⟨t, ht⟩ : ∃ t, A.ts[i]? = some t := ⟨_, List.getElem?_eq_getElem (by rw [h.sy.len]; exact (List.getElem?_eq_some_iff.mp hs).1)⟩
  exact ⟨t, by rw [List.getElem?_map, ht]; rfl, h.sy.at_ i t s ht hs⟩
section
variable {Γ : Gm} {C : Addr} {A : RAd} {i l : Nat} {H : Hp} {Q : VK}
theorem wa_sy (L : KR Γ C) (h : RdP Γ.K C A i H) (q : Q (.ref A.p) H) : WA (Γ.at l) "symbols" (.ref A.a) H Q := wa_fld (Γ := Γ.at l) L.k.cls L.n1 h.ins (by rfl) q
theorem wa_pl (L : KR Γ C) (h : RdP Γ.K C A i H) (q : Q (.int i) H) : WA (Γ.at l) "place" (.ref A.a) H Q := wa_fld (Γ := Γ.at l) L.k.cls L.n2 h.ins (by rfl) q
theorem wa_la (L : KR Γ C) (h : RdP Γ.K C A i H) (q : Q (.int A.n) H) : WA (Γ.at l) "last" (.ref A.a) H Q := wa_fld (Γ := Γ.at l) L.k.cls L.n3 h.ins (by rfl) q
end
def spTaken (K : PySem.W.Frag) (C : Addr) : Sp := fun vs H Q _ => ∃ (A : RAd) (i : Nat) (ws : List Nat) (s : List Nat × Nat), vs = [.ref A.a, .str (tx ws)] ∧ RdP K C A i H ∧ A.ss[i]? = some s ∧ (s.1 = ws → ∀ H', Fr [A.a] H H' → RdP K C A (i + 1) H' → Q (.bl true) H') ∧ (s.1 ≠ ws → Q (.bl false) H)
abbrev s_R_taken : Stmt := inClass (topS 30) 1
abbrev n_R_taken : List Str := ["self", "symbol"]
theorem sc_R_taken : FnScope n_R_taken ["self", "symbol"] (defScope s_R_taken) := ⟨rfl, rfl, rfl, by decide +kernel, rfl, by decide +kernel, by decide +kernel⟩
theorem nm_R_taken : nvB n_R_taken (defScope s_R_taken) 0 "self" = true ∧ nvB n_R_taken (defScope s_R_taken) 1 "symbol" = true := by decide +kernel
theorem cl_R_taken {Γ : Gm} {C : Addr} (dfn : DfM Γ C "taken" "Reader.taken" s_R_taken ["self", "symbol"]) (T : Names Γ) (L : KR Γ C) : Mt Γ CX0 (1) C "taken" (spTaken Γ.K C) [] := by
  refine dfn.mt sc_R_taken (fun vs H Q E h => ?_) (fun f cdv A outer s H vs Q E hg h => ?_)
  · obtain ⟨A, i, ws, s, rfl, _⟩ := h
    rfl
  obtain ⟨A, i, ws, s, rfl, ht, hs, qt, qf⟩ := h
  have nd := sc_R_taken.nd
  obtain ⟨v0, v1⟩ := nm_R_taken
  refine ⟨_, (pss_cons (ps_ifB (pt_cm (k_ne hg) (pe_ix (WX.ok hg) (pe_ix (WX.ok hg) (pe_at (WA.ok hg) (ps 0 v0)) (pe_at (WA.ok hg) (ps 0 v0)) (fun _ _ => rfl)) pe_int (fun _ _ => rfl)) (ps 1 v1) (nomark _))
    (pss_one (ps_ret pe_bl))
    pss_nil)
    (pss_cons (ps_fldaug (ps 0 v0) pe_int in_add)
    (pss_one (ps_ret pe_bl)))), ?_⟩
  refine st_start (σ := [some _, some _]) rfl ?_
  walk_at "dn"
  obtain ⟨st, hst, hsq⟩ := ht.at_ hs
  refine wa_sy L ht (wa_pl L ht (wx_l (SqL.of ht.ls) (v := .ref st) (at_nat hst) (wx_t hsq (v := .str (tx s.1)) (atG (j := 0) rfl rfl) ?_)))
  walk_at "di"
  by_cases e : s.1 = ws
  · rw [show (!decide (tx s.1 = tx ws)) = false from by rw [e, decide_eq_true rfl]; rfl]
    walk_at "di"
    dsimp only [L2.sFldAug]
    walk_at "dn"
    refine ⟨A.a, C, A.dx, A.fs i, .int i, rfl, ht.ins, L.k.cls, L.n2, by rfl, i, 1, rfl, rfl, A.dx, A.fs i, ht.ins, by show 3 < 1000; omega, ?_⟩
    have e2 : putF (Str.ofString "place") (.int ((i : Int) + 1)) (A.fs i) = A.fs (i + 1) := by
      unfold RAd.fs
      rfl
    rw [e2]
    exact qt e _ (Fr.upd (.head _)) ht.go
  · rw [show (!decide (tx s.1 = tx ws)) = true from by rw [decide_eq_false (fun z => e (tx_inj z))]; rfl]
    walk_at "di"
    exact qf e
def spNeedS (K : PySem.W.Frag) (C : Addr) : Sp := fun vs H Q _ => ∃ (A : RAd) (i : Nat) (ws : List Nat) (s : List Nat × Nat), vs = [.ref A.a, .str (tx ws)] ∧ RdP K C A i H ∧ A.ss[i]? = some s ∧ s.1 = ws ∧ ∀ H', Fr [A.a] H H' → RdP K C A (i + 1) H' → Q .non H'
def spWord (K : PySem.W.Frag) (C : Addr) : Sp := fun vs H Q _ => ∃ (A : RAd) (i : Nat) (s : List Nat × Nat), vs = [.ref A.a] ∧ RdP K C A i H ∧ A.ss[i]? = some s ∧ Nm (tx s.1) ∧ ∀ H', Fr [A.a] H H' → RdP K C A (i + 1) H' → Q (.str (tx s.1)) H'
def spEnded (K : PySem.W.Frag) (C : Addr) : Sp := fun vs H Q _ => ∃ (A : RAd) (i : Nat) (s : List Nat × Nat) (y : V), vs = [.ref A.a, y] ∧ RdP K C A i H ∧ A.ss[i]? = some s ∧ A.n ≤ s.2 ∧ Q y H
theorem fld_go {i : Nat} {A : RAd} : putF (Str.ofString "place") (.int ((i : Int) + 1)) (A.fs i) = A.fs (i + 1) := rfl
def wd (s : String) : List Nat := (Str.ofString s).cps.toList
def sgnOf (w : Str) : List Nat := if w = Str.ofString "then" then wd ">>" else if w = Str.ofString "and" then wd "&" else if w = Str.ofString "or" then wd "|" else wd "^"
/-- the place of the word among the words of its kind -/
def rnkW (asks : Bool) (w : Str) : Nat := if w = Str.ofString "or" then 0 else if asks = true then (if w = Str.ofString "xor" then 1 else if w = Str.ofString "and" then 2 else 3) else if w = Str.ofString "and" then 1 else if w = Str.ofString "then" then 2 else 3
def brk (b : Bool) (l : List (List Nat)) : List (List Nat) := if b = true then [wd "("] ++ l ++ [wd ")"] else l
def brkS (b : Bool) (l : List Nat) : List Nat := if b = true then wd "(" ++ l ++ wd ")" else l
/-- the symbols of a tree, without a bracket around it -/
def tokB : Tr → Bool → List (List Nat)
  | .z w, _ => [w.cps.toList]
  | .st k d, _ => [(if 0 < d then 43 else 45) :: k.cps.toList]
  | .mk k, _ => [wd "marked", wd "(", k.cps.toList, wd ")"]
  | .one w a, _ => if w = Str.ofString "found" then [wd "found", wd "("] ++ tokB a false ++ [wd ")"] else [wd "~"] ++ brk (decide (rnkW true a.word < 3)) (tokB a true)
  | .two w a b, asks => if w = Str.ofString "same" then [wd "same", wd "("] ++ tokB a false ++ [wd ","] ++ tokB b false ++ [wd ")"]
    else if w = Str.ofString "when" then [wd "["] ++ tokB b true ++ [wd "]"] ++ brk (decide (rnkW false a.word < 3)) (tokB a false)
    else brk (decide (rnkW asks a.word < rnkW asks w)) (tokB a asks) ++ [sgnOf w] ++ brk (decide (rnkW asks b.word < rnkW asks w + 1)) (tokB b asks)
def tok (asks : Bool) (least : Nat) (t : Tr) : List (List Nat) := brk (decide (rnkW asks t.word < least)) (tokB t asks)
/-- the text of a tree, without a bracket around it -/
def shwB : Tr → Bool → List Nat
  | .z w, _ => w.cps.toList
  | .st k d, _ => (if 0 < d then 43 else 45) :: k.cps.toList
  | .mk k, _ => wd "marked(" ++ k.cps.toList ++ wd ")"
  | .one w a, _ => if w = Str.ofString "found" then wd "found(" ++ shwB a false ++ wd ")" else wd "~" ++ brkS (decide (rnkW true a.word < 3)) (shwB a true)
  | .two w a b, asks => if w = Str.ofString "same" then wd "same(" ++ shwB a false ++ wd ", " ++ shwB b false ++ wd ")"
    else if w = Str.ofString "when" then wd "[" ++ shwB b true ++ wd "] " ++ brkS (decide (rnkW false a.word < 3)) (shwB a false)
    else brkS (decide (rnkW asks a.word < rnkW asks w)) (shwB a asks) ++ wd " " ++ sgnOf w ++ wd " " ++ brkS (decide (rnkW asks b.word < rnkW asks w + 1)) (shwB b asks)
def shw (asks : Bool) (least : Nat) (t : Tr) : List Nat := brkS (decide (rnkW asks t.word < least)) (shwB t asks)
/-- how a symbol is written -/
def wrS (s : List Nat) : List Nat := if s = wd "|" ∨ s = wd "&" ∨ s = wd "^" ∨ s = wd ">>" then wd " " ++ s ++ wd " " else if s = wd "]" ∨ s = wd "," then s ++ wd " " else s
def wr (l : List (List Nat)) : List Nat := (l.map wrS).flatten
theorem wr_app (a b : List (List Nat)) : wr (a ++ b) = wr a ++ wr b := by unfold wr; rw [List.map_append, List.flatten_append]
theorem wr_one (s : List Nat) : wr [s] = wrS s := by unfold wr; simp
theorem wr_nil : wr [] = [] := rfl
/-- a symbol with a letter or a sign + or - is written as it is -/
theorem wrS_word {s : List Nat} (h : ∃ c ∈ s, c = 43 ∨ c = 45 ∨ (97 ≤ c ∧ c ≤ 122)) : wrS s = s := by
  obtain ⟨c, hc, h⟩ := h
  have no : ∀ {z : List Nat}, (∀ x ∈ z, ¬ (x = 43 ∨ x = 45 ∨ (97 ≤ x ∧ x ≤ 122))) → s ≠ z := fun hz e => by rw [e] at hc; exact hz c hc h
  unfold wrS
  rw [if_neg (by
    rintro (e | e | e | e)
    · exact no (by decide +kernel) e
    · exact no (by decide +kernel) e
    · exact no (by decide +kernel) e
    · exact no (by decide +kernel) e), if_neg (by
    rintro (e | e)
    · exact no (by decide +kernel) e
    · exact no (by decide +kernel) e)]
theorem wr_brk (b : Bool) (l : List (List Nat)) : wr (brk b l) = brkS b (wr l) := by
  unfold brk brkS
  cases b with
  | false => rfl
  | true =>
    rw [if_pos rfl, if_pos rfl, wr_app, wr_app, wr_one, wr_one, show wrS (wd "(") = wd "(" from by decide +kernel, show wrS (wd ")") = wd ")" from by decide +kernel]
theorem wrS_nm {k : Str} (h : Nm k) : wrS k.cps.toList = k.cps.toList := by
  refine wrS_word ?_
  have h1 : 0 < k.cps.toList.length := by have := h.1; rw [Array.length_toList]; exact this
  exact ⟨k.cps.toList[0], List.getElem_mem h1, .inr (.inr (h.2.2 _ (List.getElem_mem h1)))⟩
theorem wr_cons (a : List Nat) (l : List (List Nat)) : wr (a :: l) = wrS a ++ wr l := rfl
/-- what the law writes is what the program shows -/
theorem wr_tok {ks ms : List Str} (hk : ∀ k ∈ ks, Nm k) (hm : ∀ k ∈ ms, Nm k) : ∀ (t : Tr) (b : Bool), t.wf ks ms b → wr (tokB t b) = shwB t b
  | .z w, false, h => by
    have h : w = Str.ofString "here" := h
    subst h
    decide +kernel
  | .z w, true, h => by
    have h : w = Str.ofString "always" := h
    subst h
    decide +kernel
  | .st k d, false, h => by
    show wr [_] = _
    rw [wr_one, wrS_word]
    · rfl
    · refine ⟨_, .head _, ?_⟩
      split
      · exact .inl rfl
      · exact .inr (.inl rfl)
  | .st _ _, true, h => h.elim
  | .mk k, true, h => by
    show wr [wd "marked", wd "(", k.cps.toList, wd ")"] = wd "marked(" ++ k.cps.toList ++ wd ")"
    rw [wr_cons, wr_cons, wr_cons, wr_one, wrS_nm (hm k h), show wrS (wd "marked") = wd "marked" from by decide +kernel, show wrS (wd "(") = wd "(" from by decide +kernel, show wrS (wd ")") = wd ")" from by decide +kernel, show wd "marked(" = wd "marked" ++ wd "(" from by decide +kernel]
    simp only [List.append_assoc]
  | .mk _, false, h => h.elim
  | .one _ _, false, h => h.elim
  | .one w a, true, h => by
    rcases h with ⟨e, ha⟩ | ⟨e, ha⟩
    · have e : w = Str.ofString "found" := e
      subst e
      unfold tokB shwB
      rw [if_pos rfl, if_pos rfl, wr_app, wr_app, wr_one, wr_cons, wr_one, wr_tok hk hm a false ha, show wrS (wd "found") = wd "found" from by decide +kernel, show wrS (wd "(") = wd "(" from by decide +kernel, show wrS (wd ")") = wd ")" from by decide +kernel, show wd "found(" = wd "found" ++ wd "(" from by decide +kernel]
    · have e : w = Str.ofString "not" := e
      subst e
      unfold tokB shwB
      rw [if_neg (by decide +kernel), if_neg (by decide +kernel), wr_app, wr_one, wr_brk, wr_tok hk hm a true ha, show wrS (wd "~") = wd "~" from by decide +kernel]
  | .two w a b, asks, h => by
    have two_ : ∀ {x y : Bool}, (wr (tokB a asks) = shwB a asks) → (wr (tokB b asks) = shwB b asks) → wrS (sgnOf w) = wd " " ++ sgnOf w ++ wd " " → w ≠ Str.ofString "same" → w ≠ Str.ofString "when" → wr (tokB (.two w a b) asks) = shwB (.two w a b) asks := fun h1 h2 h3 n1 n2 => by
      unfold tokB shwB
      rw [if_neg n1, if_neg n1, if_neg n2, if_neg n2, wr_app, wr_app, wr_one, wr_brk, wr_brk, h1, h2, h3]
      simp only [List.append_assoc]
    cases asks with
    | false =>
      rcases h with ⟨e, ha, hb⟩ | ⟨e, ha, hb⟩
      · rcases e with e | e | e <;> (subst e; exact two_ (x := true) (y := true) (wr_tok hk hm a false ha) (wr_tok hk hm b false hb) (by decide +kernel) (by decide +kernel) (by decide +kernel))
      · have e : w = Str.ofString "when" := e
        subst e
        unfold tokB shwB
        have n1 : Str.ofString "when" ≠ Str.ofString "same" := by decide +kernel
        rw [if_neg n1, if_neg n1, if_pos rfl, if_pos rfl, wr_app, wr_app, wr_app, wr_one, wr_one, wr_brk, wr_tok hk hm a false ha, wr_tok hk hm b true hb, show wrS (wd "[") = wd "[" from by decide +kernel, show wrS (wd "]") = wd "] " from by decide +kernel]
    | true =>
      rcases h with ⟨e, ha, hb⟩ | ⟨e, ha, hb⟩
      · have e : w = Str.ofString "same" := e
        subst e
        unfold tokB shwB
        rw [if_pos rfl, if_pos rfl, wr_app, wr_app, wr_app, wr_app, wr_one, wr_one, wr_cons, wr_one, wr_tok hk hm a false ha, wr_tok hk hm b false hb, show wrS (wd "same") = wd "same" from by decide +kernel, show wrS (wd "(") = wd "(" from by decide +kernel, show wrS (wd ",") = wd ", " from by decide +kernel, show wrS (wd ")") = wd ")" from by decide +kernel, show wd "same(" = wd "same" ++ wd "(" from by decide +kernel]
      · rcases e with e | e | e <;> (subst e; exact two_ (x := true) (y := true) (wr_tok hk hm a true ha) (wr_tok hk hm b true hb) (by decide +kernel) (by decide +kernel) (by decide +kernel))
def spLevelOf (K : PySem.W.Frag) : Sp := fun vs H Q _ => ∃ (w : Str) (p : Addr) (ys : List Str), vs = [.str w, .ref p] ∧ TpG K p ys ∧ ys.length ≤ 10 ∧ ((∃ j : Nat, ys[j]? = some w ∧ (∀ m, m < j → ys[m]? ≠ some w) ∧ Q (.int j) H) ∨ (w ∉ ys ∧ Q (.int ys.length) H))
def lwords : List Str := [Str.ofString "or", Str.ofString "and", Str.ofString "then"]
def lsigns : List Str := [Str.ofString "|", Str.ofString "&", Str.ofString ">>"]
def twords : List Str := [Str.ofString "or", Str.ofString "xor", Str.ofString "and"]
def tsigns : List Str := [Str.ofString "|", Str.ofString "^", Str.ofString "&"]
theorem levL {K : PySem.W.Frag} {pw : Addr} {w : Str} {H : Hp} {Q : VK} {E : XK} (tw : TpG K pw lwords) (q : Q (.int (rnkW false w : Nat)) H) : spLevelOf K [.str w, .ref pw] H Q E := by
  refine ⟨w, pw, lwords, rfl, tw, by decide, ?_⟩
  by_cases h1 : w = Str.ofString "or"
  · subst h1
    exact .inl ⟨0, rfl, fun m h => absurd h (Nat.not_lt_zero _), q⟩
  by_cases h2 : w = Str.ofString "and"
  · subst h2
    refine .inl ⟨1, rfl, fun m h => ?_, q⟩
    obtain rfl : m = 0 := by omega
    decide +kernel
  by_cases h3 : w = Str.ofString "then"
  · subst h3
    refine .inl ⟨2, rfl, fun m h => ?_, q⟩
    rcases (show m = 0 ∨ m = 1 by omega) with rfl | rfl <;> decide +kernel
  · refine .inr ⟨by unfold lwords; simp [h1, h2, h3], ?_⟩
    have e : rnkW false w = 3 := by unfold rnkW; rw [if_neg h1, if_neg (by decide), if_neg h2, if_neg h3]
    rw [e] at q
    exact q
theorem levT {K : PySem.W.Frag} {pw : Addr} {w : Str} {H : Hp} {Q : VK} {E : XK} (tw : TpG K pw twords) (q : Q (.int (rnkW true w : Nat)) H) : spLevelOf K [.str w, .ref pw] H Q E := by
  refine ⟨w, pw, twords, rfl, tw, by decide, ?_⟩
  by_cases h1 : w = Str.ofString "or"
  · subst h1
    exact .inl ⟨0, rfl, fun m h => absurd h (Nat.not_lt_zero _), q⟩
  by_cases h2 : w = Str.ofString "xor"
  · subst h2
    refine .inl ⟨1, rfl, fun m h => ?_, q⟩
    obtain rfl : m = 0 := by omega
    decide +kernel
  by_cases h3 : w = Str.ofString "and"
  · subst h3
    refine .inl ⟨2, rfl, fun m h => ?_, q⟩
    rcases (show m = 0 ∨ m = 1 by omega) with rfl | rfl <;> decide +kernel
  · refine .inr ⟨by unfold twords; simp [h1, h2, h3], ?_⟩
    have e : rnkW true w = 3 := by unfold rnkW; rw [if_neg h1, if_pos rfl, if_neg h2, if_neg h3]
    rw [e] at q
    exact q
theorem ofs (s : String) : Str.ofString s = tx (wd s) := (tx_of _).symm
/-- texts joined -/
theorem add_tx {Γ : Gm} {a b : List Nat} {H : Hp} {Q : VK} (h : a.length + b.length < 90000) (q : Q (.str (tx (a ++ b))) H) : oAdd Γ (.str (tx a)) (.str (tx b)) H Q := by
  show (tx a).length + (tx b).length ≤ sizeLine ∧ Q (.str (tx a ++ tx b)) H
  rw [tx_len, tx_len, tx_app]
  exact ⟨szl (by omega), q⟩
theorem shw_hi {asks : Bool} {least : Nat} {t : Tr} (h : rnkW asks t.word = 3) (hl : least ≤ 3) : shw asks least t = shwB t asks := by
  unfold shw
  rw [h, decide_eq_false (by omega)]
  rfl
theorem shwB_two (w : Str) (a b : Tr) (asks : Bool) : shwB (.two w a b) asks = if w = Str.ofString "same" then wd "same(" ++ shwB a false ++ wd ", " ++ shwB b false ++ wd ")"
    else if w = Str.ofString "when" then wd "[" ++ shwB b true ++ wd "] " ++ brkS (decide (rnkW false a.word < 3)) (shwB a false)
    else brkS (decide (rnkW asks a.word < rnkW asks w)) (shwB a asks) ++ wd " " ++ sgnOf w ++ wd " " ++ brkS (decide (rnkW asks b.word < rnkW asks w + 1)) (shwB b asks) := by rw [shwB]
theorem sgnL {w : Str} (h : w = Str.ofString "then" ∨ w = Str.ofString "and" ∨ w = Str.ofString "or") : (lsigns.map V.str)[rnkW false w]? = some (.str (tx (sgnOf w))) ∧ (sgnOf w).length ≤ 2 ∧ rnkW false w ≤ 2 ∧ w ≠ Str.ofString "here" ∧ w ≠ Str.ofString "step" ∧ w ≠ Str.ofString "when" ∧ w ≠ Str.ofString "same" := by
  rcases h with rfl | rfl | rfl
  · exact ⟨congrArg (fun x => some (V.str x)) (show Str.ofString ">>" = tx (sgnOf (Str.ofString "then")) by decide +kernel), by decide +kernel, by decide +kernel, by decide +kernel, by decide +kernel, by decide +kernel, by decide +kernel⟩
  · exact ⟨congrArg (fun x => some (V.str x)) (show Str.ofString "&" = tx (sgnOf (Str.ofString "and")) by decide +kernel), by decide +kernel, by decide +kernel, by decide +kernel, by decide +kernel, by decide +kernel, by decide +kernel⟩
  · exact ⟨congrArg (fun x => some (V.str x)) (show Str.ofString "|" = tx (sgnOf (Str.ofString "or")) by decide +kernel), by decide +kernel, by decide +kernel, by decide +kernel, by decide +kernel, by decide +kernel, by decide +kernel⟩
theorem brkS_len (b : Bool) (l : List Nat) : (brkS b l).length ≤ l.length + 2 := by
  unfold brkS
  split
  · rw [List.length_append, List.length_append, show (wd "(").length = 1 from by decide +kernel, show (wd ")").length = 1 from by decide +kernel]; omega
  · omega
theorem shwB_pos (b : Bool) (l : List Nat) : l.length ≤ (brkS b l).length := by
  unfold brkS
  split
  · rw [List.length_append, List.length_append]; omega
  · exact Nat.le_refl _
def spShown (K : PySem.W.Frag) (asks : Bool) (d : Nat) : Sp := fun vs H Q _ => ∃ (p : Addr) (t : Tr) (ks ms : List Str) (least : Nat), vs = [.ref p, .int least] ∧ TrP K H t p ∧ t.wf ks ms asks ∧ (∀ k ∈ ks, Nm k) ∧ (∀ k ∈ ms, Nm k) ∧ t.dep ≤ d ∧ (shwB t asks).length < 50000 ∧ least ≤ 3 ∧ ∀ H', Same H H' → Q (.str (tx (shw asks least t))) H'
theorem sgnT {w : Str} (h : w = Str.ofString "or" ∨ w = Str.ofString "xor" ∨ w = Str.ofString "and") : (tsigns.map V.str)[rnkW true w]? = some (.str (tx (sgnOf w))) ∧ (sgnOf w).length ≤ 2 ∧ rnkW true w ≤ 2 ∧ (w ≠ Str.ofString "always" ∧ w ≠ Str.ofString "marked" ∧ w ≠ Str.ofString "found") ∧ w ≠ Str.ofString "same" ∧ w ≠ Str.ofString "not" ∧ w ≠ Str.ofString "when" := by
  rcases h with rfl | rfl | rfl
  · exact ⟨congrArg (fun x => some (V.str x)) (show Str.ofString "|" = tx (sgnOf (Str.ofString "or")) by decide +kernel), by decide +kernel, by decide +kernel, by decide +kernel, by decide +kernel, by decide +kernel, by decide +kernel⟩
  · exact ⟨congrArg (fun x => some (V.str x)) (show Str.ofString "^" = tx (sgnOf (Str.ofString "xor")) by decide +kernel), by decide +kernel, by decide +kernel, by decide +kernel, by decide +kernel, by decide +kernel, by decide +kernel⟩
  · exact ⟨congrArg (fun x => some (V.str x)) (show Str.ofString "&" = tx (sgnOf (Str.ofString "and")) by decide +kernel), by decide +kernel, by decide +kernel, by decide +kernel, by decide +kernel, by decide +kernel, by decide +kernel⟩
theorem shw_0 (asks : Bool) (t : Tr) : shw asks 0 t = shwB t asks := by unfold shw; rw [decide_eq_false (by omega)]; rfl
abbrev Sy := List Nat × Nat
/-- what reading ends in: a tree and what is left, or the place of what is wrong -/
inductive Rs where
  | ok (t : Tr) (l : List Sy)
  | bad (a : Nat)
deriving DecidableEq
def hdS (l : List Sy) : List Nat := (l.headD ([], 0)).1
def hdP (l : List Sy) : Nat := (l.headD ([], 0)).2
def bindR (r : Option Rs) (k : Tr → List Sy → Option Rs) : Option Rs := match r with
  | some (.ok t l) => k t l
  | some (.bad a) => some (.bad a)
  | none => none
def needR (s : List Nat) (l : List Sy) (k : List Sy → Option Rs) : Option Rs := if hdS l = s then k l.tail else some (.bad (hdP l))
def lpR (f : List Sy → Option Rs) (sg : List Nat) (w : Str) : Nat → Tr → List Sy → Option Rs
  | 0, _, _ => none
  | n + 1, t, l => if hdS l = sg then bindR (f l.tail) fun t2 l2 => lpR f sg w n (.two w t t2) l2 else some (.ok t l)
def levR (f : List Sy → Option Rs) (sg : List Nat) (w : Str) (l : List Sy) : Option Rs := bindR (f l) fun t l2 => lpR f sg w (l2.length + 1) t l2
def nmB (s : List Nat) : Bool := decide (1 ≤ s.length ∧ s.length ≤ 8) && s.all isL
def sgL (R : Bool → List Sy → Option Rs) (l : List Sy) : Option Rs :=
  if hdS l = wd "here" then some (.ok (.z "here") l.tail)
  else if hdS l = wd "(" then bindR (R false l.tail) fun t l2 => needR (wd ")") l2 fun l3 => some (.ok t l3)
  else if (hdS l).head? = some 43 ∨ (hdS l).head? = some 45 then some (.ok (.st (tx (hdS l).tail) (if (hdS l).head? = some 43 then 1 else -1)) l.tail)
  else some (.bad (hdP l))
def sgT (R : Bool → List Sy → Option Rs) (l : List Sy) : Option Rs :=
  if hdS l = wd "always" then some (.ok (.z "always") l.tail)
  else if hdS l = wd "(" then bindR (R true l.tail) fun t l2 => needR (wd ")") l2 fun l3 => some (.ok t l3)
  else if hdS l = wd "marked" then needR (wd "(") l.tail fun l2 => if nmB (hdS l2) = true then needR (wd ")") l2.tail fun l3 => some (.ok (.mk (tx (hdS l2))) l3) else some (.bad (hdP l2))
  else if hdS l = wd "found" then needR (wd "(") l.tail fun l2 => bindR (R false l2) fun t l3 => needR (wd ")") l3 fun l4 => some (.ok (.one "found" t) l4)
  else if hdS l = wd "same" then needR (wd "(") l.tail fun l2 => bindR (R false l2) fun t l3 => needR (wd ",") l3 fun l4 => bindR (R false l4) fun u l5 => needR (wd ")") l5 fun l6 => some (.ok (.two "same" t u) l6)
  else some (.bad (hdP l))
/-- the tests in front, the first one outermost -/
def whens (acc : List Tr) (t : Tr) : Tr := acc.foldr (fun x t => .two "when" t x) t
def nots : Nat → Tr → Tr
  | 0, t => t
  | n + 1, t => .one "not" (nots n t)
def gdR (R : Bool → List Sy → Option Rs) : Nat → List Tr → List Sy → Option Rs
  | 0, _, _ => none
  | n + 1, acc, l => if hdS l = wd "[" then bindR (R true l.tail) fun t l2 => needR (wd "]") l2 fun l3 => gdR R n (acc ++ [t]) l3
    else bindR (sgL R l) fun t l2 => some (.ok (whens acc t) l2)
def tnR (R : Bool → List Sy → Option Rs) : Nat → Nat → List Sy → Option Rs
  | 0, _, _ => none
  | n + 1, c, l => if hdS l = wd "~" then tnR R n (c + 1) l.tail else bindR (sgT R l) fun t l2 => some (.ok (nots c t) l2)
def sgA (asks : Bool) (lev : Nat) : List Nat := ((if asks = true then [wd "|", wd "^", wd "&"] else [wd "|", wd "&", wd ">>"])[lev]?).getD []
def wdA (asks : Bool) (lev : Nat) : Str := ((if asks = true then twords else lwords)[lev]?).getD ""
/-- k levels above the tightest -/
def rdK (R : Bool → List Sy → Option Rs) (asks : Bool) : Nat → List Sy → Option Rs
  | 0 => fun l => if asks = true then tnR R (l.length + 1) 0 l else gdR R (l.length + 1) [] l
  | k + 1 => levR (rdK R asks k) (sgA asks (2 - k)) (wdA asks (2 - k))
/-- brackets at most so deep -/
def rd : Nat → Bool → List Sy → Option Rs
  | 0 => fun _ _ => none
  | o + 1 => fun asks => rdK (rd o) asks 3
/-- the whole text -/
def readT (o : Nat) (asks : Bool) (cs : List Nat) : Option Rs := bindR (rd o asks (lexT cs)) fun t l => if hdP l < cs.length then some (.bad (hdP l)) else some (.ok t l)

/-- a reader at the symbol i, one of its symbols -/
structure RdQ (K : PySem.W.Frag) (C : Addr) (A : RAd) (i : Nat) (H : Hp) : Prop where
  r : RdP K C A i H
  lt : i < A.ss.length
  tm : ∃ e, A.ss.getLast? = some ([], e)
  sl : ∀ s ∈ A.ss, s.1.length ≤ 9
  le : A.ss.length < 80000
theorem RdQ.same {K : PySem.W.Frag} {C : Addr} {A : RAd} {i : Nat} {H H' : Hp} (h : RdQ K C A i H) (s : Same H H') : RdQ K C A i H' := ⟨h.r.same s, h.lt, h.tm, h.sl, h.le⟩
theorem drop_c {α : Type} {l : List α} {i : Nat} (h : i < l.length) : l.drop i = l[i] :: l.drop (i + 1) := List.drop_eq_getElem_cons h
theorem RdQ.sym {K : PySem.W.Frag} {C : Addr} {A : RAd} {i : Nat} {H : Hp} (h : RdQ K C A i H) : A.ss[i]? = some (hdS (A.ss.drop i), hdP (A.ss.drop i)) := by
  rw [drop_c h.lt, List.getElem?_eq_getElem h.lt]
  rfl
theorem RdQ.tl {K : PySem.W.Frag} {C : Addr} {A : RAd} {i : Nat} {H : Hp} (h : RdQ K C A i H) : A.ss.drop (i + 1) = (A.ss.drop i).tail := by
  rw [drop_c h.lt]
  rfl
/-- behind a symbol that is one there is another -/
theorem RdQ.next {K : PySem.W.Frag} {C : Addr} {A : RAd} {i : Nat} {H H' : Hp} (h : RdQ K C A i H) (n : hdS (A.ss.drop i) ≠ []) (r : RdP K C A (i + 1) H') : RdQ K C A (i + 1) H' := by
  refine ⟨r, ?_, h.tm, h.sl, h.le⟩
  obtain ⟨e, he⟩ := h.tm
  have hl := h.lt
  by_cases z : i + 1 < A.ss.length
  · exact z
  · exfalso
    have hi : i = A.ss.length - 1 := by omega
    rw [List.getLast?_eq_getElem?, ← hi, h.sym] at he
    exact n (congrArg Prod.fst (Option.some.inj he))
/-- what reading ends in, in the heap -/
def RsP (K : PySem.W.Frag) (C CE : Addr) (A : RAd) (r : Option Rs) (H : Hp) (Q : VK) (E : XK) : Prop := match r with
  | none => True
  | some (.ok t l) => ∀ p j H', Fr [A.a] H H' → RdQ K C A j H' → A.ss.drop j = l → TrP K H' t p → Q (.ref p) H'
  | some (.bad a) => ∀ d H', Fr [A.a] H H' → H' d = some (.xd (fsD ["at"] [.int a])) → E (.ref CE) (some d) H'
theorem RsP.fr {K : PySem.W.Frag} {C CE : Addr} {A : RAd} {r : Option Rs} {H H' : Hp} {Q : VK} {E : XK} (h : RsP K C CE A r H Q E) (f : Fr [A.a] H H') : RsP K C CE A r H' Q E := by
  unfold RsP at *
  split
  · trivial
  · exact fun p j H2 f2 => h p j H2 (f.trans f2)
  · exact fun d H2 f2 => h d H2 (f.trans f2)
theorem RsP.bind {K : PySem.W.Frag} {C CE : Addr} {A : RAd} {r : Option Rs} {k : Tr → List Sy → Option Rs} {H0 H : Hp} {Q Q' : VK} {E : XK} (h : RsP K C CE A (bindR r k) H0 Q E) (nn : bindR r k ≠ none) (f0 : Fr [A.a] H0 H)
    (q : ∀ t l p j H', r = some (.ok t l) → k t l ≠ none → Fr [A.a] H H' → RdQ K C A j H' → A.ss.drop j = l → TrP K H' t p → RsP K C CE A (k t l) H0 Q E → Q' (.ref p) H') : r ≠ none ∧ RsP K C CE A r H Q' E := by
  rcases r with _ | ⟨t, l⟩ | a
  · exact absurd rfl nn
  · exact ⟨fun z => (by cases z), fun p j H' f hr e ht => q t l p j H' rfl nn f hr e ht h⟩
  · exact ⟨fun z => (by cases z), fun d H' f => h d H' (f0.trans f)⟩
/-- a symbol that must stand here -/
theorem RsP.needed {K : PySem.W.Frag} {C CE : Addr} {A : RAd} {s : List Nat} {l : List Sy} {k : List Sy → Option Rs} {H0 : Hp} {Q : VK} {E : XK} (h : RsP K C CE A (needR s l k) H0 Q E) (nn : needR s l k ≠ none) :
    (hdS l = s → k l.tail ≠ none ∧ RsP K C CE A (k l.tail) H0 Q E) ∧ (hdS l ≠ s → ∀ d H', Fr [A.a] H0 H' → H' d = some (.xd (fsD ["at"] [.int (hdP l : Nat)])) → E (.ref CE) (some d) H') := by
  unfold needR at h nn
  refine ⟨fun e => ?_, fun e => ?_⟩
  · rw [if_pos e] at h nn
    exact ⟨nn, h⟩
  · rw [if_neg e] at h
    exact h
theorem _root_.G.TrP.frI {K : PySem.W.Frag} {H H' : Hp} {b C dx : Addr} {fs : List (Str × V)} {t : Tr} {p : Addr} (h : TrP K H t p) (f : Fr [b] H H') (hb : H b = some (.ins C dx fs)) : TrP K H' t p :=
  TrP.loc (MC := fun _ => True) t p H H' (fun a o e i => f a o (fun z => by
    obtain rfl : a = b := List.mem_singleton.mp z
    rw [hb] at e; cases e
    rcases i with i | i
    · exact absurd i List.not_mem_nil
    · exact absurd trivial i) e) h
theorem sqt_frL {K : PySem.W.Frag} {H H' : Hp} {b p : Addr} {xs ys : List V} (h : SqT K H p xs) (f : Fr [b] H H') (hb : H b = some (.lst ys)) : SqT K H' p xs := by
  rcases h with (h | ⟨u, h⟩) | h
  · exact .inl (.inl (f _ _ (fun z => by rw [List.mem_singleton.mp z, hb] at h; cases h) h))
  · exact .inl (.inr ⟨u, f _ _ (fun z => by rw [List.mem_singleton.mp z, hb] at h; cases h) h⟩)
  · exact .inr h
/-- a list is changed that is not the reader's -/
theorem RdP.frL {K : PySem.W.Frag} {C : Addr} {A : RAd} {i : Nat} {H H' : Hp} {b : Addr} {ys : List V} (h : RdP K C A i H) (f : Fr [b] H H') (hb : H b = some (.lst ys)) (n : A.p ≠ b) : RdP K C A i H' :=
  ⟨f _ _ (fun z => by have := h.ins; rw [List.mem_singleton.mp z, hb] at this; cases this) h.ins, f _ _ (fun z => n (List.mem_singleton.mp z)) h.ls, h.sy.len, fun i t e a b' => sqt_frL (h.sy.at_ i t e a b') f hb⟩
theorem RdQ.frL {K : PySem.W.Frag} {C : Addr} {A : RAd} {i : Nat} {H H' : Hp} {b : Addr} {ys : List V} (h : RdQ K C A i H) (f : Fr [b] H H') (hb : H b = some (.lst ys)) (n : A.p ≠ b) : RdQ K C A i H' := ⟨h.r.frL f hb n, h.lt, h.tm, h.sl, h.le⟩
theorem _root_.G.TrP.frA {K : PySem.W.Frag} {C : Addr} {A : RAd} {i : Nat} {H H' : Hp} {t : Tr} {p : Addr} (h : TrP K H t p) (r : RdQ K C A i H) (f : Fr [A.a] H H') : TrP K H' t p := h.frI f r.r.ins
theorem RdQ.short {K : PySem.W.Frag} {C : Addr} {A : RAd} {i : Nat} {H : Hp} (h : RdQ K C A i H) : (hdS (A.ss.drop i)).length ≤ 9 := h.sl _ (List.mem_of_getElem? h.sym)
/-- reading f with these arguments -/
def spRd (K : PySem.W.Frag) (C CE : Addr) (ws : List V) (f : List Sy → Option Rs) : Sp := fun vs H Q E => ∃ (A : RAd) (i : Nat), vs = .ref A.a :: ws ∧ RdQ K C A i H ∧ f (A.ss.drop i) ≠ none ∧ RsP K C CE A (f (A.ss.drop i)) H Q E
def spNeedX (K : PySem.W.Frag) (C CE : Addr) : Sp := fun vs H Q E => ∃ (A : RAd) (i : Nat) (ws : List Nat), vs = [.ref A.a, .str (tx ws)] ∧ ws ≠ [] ∧ RdQ K C A i H ∧
  (hdS (A.ss.drop i) = ws → ∀ H', Fr [A.a] H H' → RdQ K C A (i + 1) H' → Q .non H') ∧ (hdS (A.ss.drop i) ≠ ws → ∀ d H', Fr [A.a] H H' → H' d = some (.xd (fsD ["at"] [.int (hdP (A.ss.drop i) : Nat)])) → E (.ref CE) (some d) H')
def spWordX (K : PySem.W.Frag) (C CE : Addr) : Sp := fun vs H Q E => ∃ (A : RAd) (i : Nat), vs = [.ref A.a] ∧ RdQ K C A i H ∧
  (nmB (hdS (A.ss.drop i)) = true → ∀ H', Fr [A.a] H H' → RdQ K C A (i + 1) H' → Q (.str (tx (hdS (A.ss.drop i)))) H') ∧ (nmB (hdS (A.ss.drop i)) = false → ∀ d H', Fr [A.a] H H' → H' d = some (.xd (fsD ["at"] [.int (hdP (A.ss.drop i) : Nat)])) → E (.ref CE) (some d) H')
def spEndedX (K : PySem.W.Frag) (C CE : Addr) : Sp := fun vs H Q E => ∃ (A : RAd) (i : Nat) (y : V), vs = [.ref A.a, y] ∧ RdQ K C A i H ∧ (A.n ≤ hdP (A.ss.drop i) → Q y H) ∧ (hdP (A.ss.drop i) < A.n → ∀ d H', Fr [A.a] H H' → H' d = some (.xd (fsD ["at"] [.int (hdP (A.ss.drop i) : Nat)])) → E (.ref CE) (some d) H')
def spIsNameB : Sp := fun vs H Q _ => ∃ z : Str, vs = [.str z] ∧ z.length < 100000 ∧ ∀ H', Same H H' → Q (.bl (nmB z.cps.toList)) H'
theorem isname_b {vs : List V} {H : Hp} {Q : VK} {E : XK} (h : spIsName vs H Q E) : spIsNameB vs H Q E := by
  obtain ⟨z, rfl, ⟨n1, n2, n3⟩, q⟩ := h
  refine ⟨z, rfl, by omega, fun H' s => ?_⟩
  have e : nmB z.cps.toList = true := by
    unfold nmB
    have hl : z.cps.toList.length = z.length := by rw [Array.length_toList]; rfl
    rw [hl, decide_eq_true ⟨n1, n2⟩, Bool.true_and, List.all_eq_true]
    exact fun c hc => decide_eq_true (n3 c hc)
  rw [e]
  exact q H' s
abbrev s_isnameB : Stmt := topS 10
abbrev n_isnameB : List Str := ["value", "sign"]
theorem sc_isnameB : FnScope n_isnameB ["value"] (defScope s_isnameB) := ⟨rfl, rfl, rfl, by decide +kernel, rfl, by decide +kernel, by decide +kernel⟩
theorem nm_isnameB : nvB n_isnameB (defScope s_isnameB) 0 "value" = true ∧ gvB (defScope s_isnameB) "all" = true ∧ gvB (defScope s_isnameB) "isinstance" = true ∧ gvB (defScope s_isnameB) "len" = true ∧ gvB (defScope s_isnameB) "str" = true := by decide +kernel
theorem cl_isnameB {Γ : Gm} (dfn : Dfn Γ "is_name" s_isnameB ["value"]) (T : Names Γ) (gc_LETTERS : ∃ u, Γ.mg "LETTERS" = some u ∧ RelV (.str LET) u) : Cl Γ CX0 (1) "is_name" spIsNameB [] := by
  refine dfn.cl sc_isnameB (fun vs H Q E h => ?_) (fun f cdv A outer s H vs Q E hg h => ?_)
  · obtain ⟨i, rfl, _⟩ := h
    rfl
  obtain ⟨z, rfl, hz, q⟩ := h
  have nd := sc_isnameB.nd
  obtain ⟨v0, g_all, g_isinstance, g_len, g_str⟩ := nm_isnameB
  refine ⟨_, (pss_one (ps_ret (pe_and2 hg (pcb (WC.ok hg) g_isinstance T.n_isinstance bt_isinstance (pa_cons (ps 0 v0) (pa_cons (pe_bltn (v := .ty "str") (gv_of g_str).1 T.n_str bt_str rfl) pa_nil))) (pe_and2 hg (pe_ch (k_le hg) (k_le hg) pe_int (pcb (k_len hg) g_len T.n_len bt_len (pa_cons (ps 0 v0) pa_nil)) pe_int) (pe_one (pcb (WC.ok hg) g_all T.n_all bt_all (pa_cons (pe_lc (own := [("sign", 1)]) rfl nd (pi_str (ps 0 v0)) (blkOk_by (N := n_isnameB) (sc := defScope s_isnameB) (by decide +kernel)) (fun _ _ _ _ _ => (pg_name (i := 1) nd rfl (by first | exact .inl rfl | exact .inr rfl))) (fun _ _ _ _ _ => pts_nil) (fun _ _ _ _ _ => (pe_cmpR (WO.ok hg.blk) (psr 1) (C8.pe_gc (gv_of (by rfl)).1 gc_LETTERS) (by with_unfolding_all rfl)))) pa_nil))))))), ?_⟩
  refine st_start (σ := [some _, none]) rfl ?_
  walk_at "dn"
  refine wc_isi (.ty "str") (.base (.str _)) (kit_ty (r := true) (by decide +kernel)) ?_
  walk_at "di"
  have hl : z.cps.toList.length = z.length := by rw [Array.length_toList]; rfl
  have no : ¬ (1 ≤ z.length ∧ z.length ≤ 8) → nmB z.cps.toList = false := fun h => by unfold nmB; rw [hl, decide_eq_false h]; rfl
  refine ⟨szl (by omega), br_d (fun h1 => br_d (fun h2 => ⟨z, rfl, fun D hD => ?_⟩) (fun h2 => ?_)) (fun h1 => ?_)⟩
  · refine lq_it walk_str (fun i acc H' => SS (E := E1 Γ) H [] H' [] [lstR D acc] ∧ acc = ((z.cps.toList.take i).map isL).map V.bl) ⟨SS.start0.newC hD (fun z => z), rfl⟩ (fun _ _ _ _ _ => trivial) ?_ ?_
    · rintro i x acc H1 H2 hi hl2 ⟨s, ha⟩ ⟨rfl, c, hc, rfl⟩
      walk_at "dn"
      refine ⟨rfl, wo_in1 ?_⟩
      rw [letB]
      refine lq_add s hl2 (lt_size (by have h2 : i < z.length := hi; omega)) ⟨_, lq_len hl2, s.app, ?_⟩
      have hc' : z.cps.toList[i]? = some c := by rw [Array.getElem?_toList]; exact hc
      rw [ha, List.take_succ, hc']
      simp
    · rintro acc H1 hl2 ⟨s, ha⟩
      subst ha
      refine wc_all (SqL.of (s.cell (.head _))) ?_
      have e : nmB z.cps.toList = ((z.cps.toList.take z.cps.size).map isL).all id := by
        unfold nmB
        rw [hl, decide_eq_true ⟨by omega, by omega⟩, Bool.true_and, show z.cps.size = z.cps.toList.length from Array.length_toList.symm, List.take_length, List.all_map]
        rfl
      rw [← e]
      exact q H1 s.fr.same
  · rw [decide_eq_false (by omega), ← no (by omega)]
    exact q H (Same.refl _)
  · rw [← no (by omega)]
    exact q H (Same.refl _)
abbrev s_R_needX : Stmt := inClass (topS 30) 2
abbrev n_R_needX : List Str := ["self", "symbol"]
theorem sc_R_needX : FnScope n_R_needX ["self", "symbol"] (defScope s_R_needX) := ⟨rfl, rfl, rfl, by decide +kernel, rfl, by decide +kernel, by decide +kernel⟩
theorem nm_R_needX : nvB n_R_needX (defScope s_R_needX) 0 "self" = true ∧ nvB n_R_needX (defScope s_R_needX) 1 "symbol" = true ∧ gvB (defScope s_R_needX) "BadText" = true := by decide +kernel
theorem cl_R_needX {Γ : Gm} {C : Addr} (dfn : DfM Γ C "need" "Reader.need" s_R_needX ["self", "symbol"]) (T : Names Γ) {CE : Addr} (L : KR Γ C) (e_BadText : ErrK Γ 1 "BadText" CE 1 (fsD ["at"]) ["at"]) (m_taken : Mt Γ CX0 1 C "taken" (spTaken Γ.K C) []) : Mt Γ (CXN Γ) (3) C "need" (spNeedX Γ.K C CE) [] := by
  refine dfn.mtN sc_R_needX (fun vs H Q E h => ?_) (fun f cdv A outer s H vs Q E hg tk po h => ?_)
  · obtain ⟨A, i, ws, rfl, _⟩ := h
    rfl
  obtain ⟨A, i, ws, rfl, hne, ht, q1, q2⟩ := h
  have nd := sc_R_needX.nd
  obtain ⟨v0, v1, g_BadText⟩ := nm_R_needX
  refine ⟨_, (pss_one (ps_ifB (pt_not (pt_tr hg (pe_mw hg (ps 0 v0) (pa_cons (ps 1 v1) pa_nil))))
    (pss_one (ps_rz hg tk (pmkN e_BadText hg (by omega) g_BadText (pa_cons (pe_ix (WX.ok hg) (pe_ix (WX.ok hg) (pe_at (WA.ok hg) (ps 0 v0)) (pe_at (WA.ok hg) (ps 0 v0)) (fun _ _ => rfl)) pe_int (fun _ _ => rfl)) pa_nil))))
    pss_nil)), ?_⟩
  refine st_start (σ := [some _, some _]) rfl ?_
  walk_at "dn"
  refine ⟨1, C, A.a, A.dx, A.fs i, spTaken Γ.K C, [], E0, ⟨m_taken.ex⟩, by omega, rfl, ht.r.ins, by rfl, A, i, ws, _, rfl, ht.r, ht.sym, fun e H' f t => ?_, fun n => ?_⟩
  · walk_at "di"
    exact q1 e H' f (ht.next (by rw [show hdS (A.ss.drop i) = ws from e]; exact hne) t)
  · walk_at "di"
    obtain ⟨st, hst, hsq⟩ := ht.r.at_ ht.sym
    refine wa_sy L ht.r (wa_pl L ht.r (wx_l (SqL.of ht.r.ls) (v := .ref st) (at_nat hst) (wx_t hsq (atG (j := 1) rfl rfl) ?_)))
    exact ⟨rfl, fun d hd => q2 n d _ (Fr.new hd) upd_same⟩
abbrev s_R_wordX : Stmt := inClass (topS 30) 3
abbrev n_R_wordX : List Str := ["self", "symbol", "at"]
theorem sc_R_wordX : FnScope n_R_wordX ["self"] (defScope s_R_wordX) := ⟨rfl, rfl, rfl, by decide +kernel, rfl, by decide +kernel, by decide +kernel⟩
theorem nm_R_wordX : nvB n_R_wordX (defScope s_R_wordX) 0 "self" = true ∧ nvB n_R_wordX (defScope s_R_wordX) 1 "symbol" = true ∧ nvB n_R_wordX (defScope s_R_wordX) 2 "at" = true ∧ lvB n_R_wordX (defScope s_R_wordX) 1 "symbol" = true ∧ lvB n_R_wordX (defScope s_R_wordX) 2 "at" = true ∧ gvB (defScope s_R_wordX) "BadText" = true ∧ gvB (defScope s_R_wordX) "is_name" = true := by decide +kernel
theorem cl_R_wordX {Γ : Gm} {C : Addr} (dfn : DfM Γ C "word" "Reader.word" s_R_wordX ["self"]) (T : Names Γ) {CE : Addr} (L : KR Γ C) (e_BadText : ErrK Γ 1 "BadText" CE 1 (fsD ["at"]) ["at"]) (c_is_name : Cl Γ CX0 1 "is_name" spIsNameB []) : Mt Γ (CXN Γ) (3) C "word" (spWordX Γ.K C CE) [] := by
  refine dfn.mtN sc_R_wordX (fun vs H Q E h => ?_) (fun f cdv A outer s H vs Q E hg tk po h => ?_)
  · obtain ⟨A, i, rfl, _⟩ := h
    rfl
  obtain ⟨A, i, rfl, ht, q1, q2⟩ := h
  have nd := sc_R_wordX.nd
  obtain ⟨v0, v1, v2, l1, l2, g_BadText, g_is_name⟩ := nm_R_wordX
  refine ⟨_, (pss_cons (ps_asg (pe_ix (WX.ok hg) (pe_at (WA.ok hg) (ps 0 v0)) (pe_at (WA.ok hg) (ps 0 v0)) (fun _ _ => rfl)) (pg_tK hg 2 rfl (pgs_c (pgn (i := 1) nd l1) (pgs_c (pgn (i := 2) nd l2) pgs_0))))
    (pss_cons (ps_ifB (pt_not (pt_tr hg (pcl c_is_name hg (by omega) g_is_name pass0 (pa_cons (ps 1 v1) pa_nil))))
    (pss_one (ps_rz hg tk (pmkN e_BadText hg (by omega) g_BadText (pa_cons (ps 2 v2) pa_nil))))
    pss_nil)
    (pss_cons (ps_fldaug (ps 0 v0) pe_int in_add)
    (pss_one (ps_ret (ps 1 v1)))))), ?_⟩
  refine st_start (σ := [some _, none, none]) rfl ?_
  walk_at "dn"
  obtain ⟨st, hst, hsq⟩ := ht.r.at_ ht.sym
  refine wa_sy L ht.r (wa_pl L ht.r (wx_l (SqL.of ht.r.ls) (v := .ref st) (at_nat hst) ?_))
  refine gt_of hsq rfl ?_
  walk_at "dn"
  refine ⟨tx (hdS (A.ss.drop i)), rfl, ?_, fun H1 s1 => ?_⟩
  · rw [tx_len]; have := ht.short; omega
  rw [tx_cps]
  have f1 : Fr [A.a] H H1 := Fr.of s1
  cases hn : nmB (hdS (A.ss.drop i)) with
  | false =>
    walk_at "di"
    exact ⟨rfl, fun d hd => q2 hn d _ (f1.trans (Fr.new hd)) upd_same⟩
  | true =>
    walk_at "di"
    dsimp only [L2.sFldAug]
    walk_at "dn"
    have ht1 := ht.same s1
    refine ⟨A.a, C, A.dx, A.fs i, .int i, rfl, ht1.r.ins, L.k.cls, L.n2, by rfl, i, 1, rfl, rfl, A.dx, A.fs i, ht1.r.ins, by show 3 < 1000; omega, ?_⟩
    rw [fld_go]
    refine q1 hn _ (f1.trans (Fr.upd (.head _))) (ht1.next ?_ ht1.r.go)
    intro z
    rw [z] at hn
    cases hn
abbrev s_R_endedX : Stmt := inClass (topS 30) 4
abbrev n_R_endedX : List Str := ["self", "tree", "symbol", "at"]
theorem sc_R_endedX : FnScope n_R_endedX ["self", "tree"] (defScope s_R_endedX) := ⟨rfl, rfl, rfl, by decide +kernel, rfl, by decide +kernel, by decide +kernel⟩
theorem nm_R_endedX : nvB n_R_endedX (defScope s_R_endedX) 0 "self" = true ∧ nvB n_R_endedX (defScope s_R_endedX) 1 "tree" = true ∧ nvB n_R_endedX (defScope s_R_endedX) 3 "at" = true ∧ lvB n_R_endedX (defScope s_R_endedX) 2 "symbol" = true ∧ lvB n_R_endedX (defScope s_R_endedX) 3 "at" = true ∧ gvB (defScope s_R_endedX) "BadText" = true := by decide +kernel
theorem cl_R_endedX {Γ : Gm} {C : Addr} (dfn : DfM Γ C "ended" "Reader.ended" s_R_endedX ["self", "tree"]) (T : Names Γ) {CE : Addr} (L : KR Γ C) (e_BadText : ErrK Γ 1 "BadText" CE 1 (fsD ["at"]) ["at"]) : Mt Γ (CXN Γ) (3) C "ended" (spEndedX Γ.K C CE) [] := by
  refine dfn.mtN sc_R_endedX (fun vs H Q E h => ?_) (fun f cdv A outer s H vs Q E hg tk po h => ?_)
  · obtain ⟨A, i, y, rfl, _⟩ := h
    rfl
  obtain ⟨A, i, y, rfl, ht, q1, q2⟩ := h
  have nd := sc_R_endedX.nd
  obtain ⟨v0, v1, v3, l2, l3, g_BadText⟩ := nm_R_endedX
  refine ⟨_, (pss_cons (ps_asg (pe_ix (WX.ok hg) (pe_at (WA.ok hg) (ps 0 v0)) (pe_at (WA.ok hg) (ps 0 v0)) (fun _ _ => rfl)) (pg_tK hg 2 rfl (pgs_c (pgn (i := 2) nd l2) (pgs_c (pgn (i := 3) nd l3) pgs_0))))
    (pss_cons (ps_ifB (pt_cm (k_lt hg) (ps 3 v3) (pe_at (WA.ok hg) (ps 0 v0)) (nomark _))
    (pss_one (ps_rz hg tk (pmkN e_BadText hg (by omega) g_BadText (pa_cons (ps 3 v3) pa_nil))))
    pss_nil)
    (pss_one (ps_ret (ps 1 v1))))), ?_⟩
  refine st_start (σ := [some _, some _, none, none]) rfl ?_
  walk_at "dn"
  obtain ⟨st, hst, hsq⟩ := ht.r.at_ ht.sym
  refine wa_sy L ht.r (wa_pl L ht.r (wx_l (SqL.of ht.r.ls) (v := .ref st) (at_nat hst) ?_))
  refine gt_of hsq rfl ?_
  walk_at "dn"
  refine wa_la L ht.r ?_
  walk_at "di"
  refine br_d (fun h => ?_) (fun h => ?_)
  · exact ⟨rfl, fun d hd => q2 (by omega) d _ (Fr.new hd) upd_same⟩
  · exact q1 (by omega)
theorem sgn_at (k : Nat) (h : k < 3) : (lsigns.map V.str)[2 - k]? = some (.str (tx (sgA false (2 - k)))) ∧ (tsigns.map V.str)[2 - k]? = some (.str (tx (sgA true (2 - k)))) := by
  rcases (show k = 0 ∨ k = 1 ∨ k = 2 by omega) with rfl | rfl | rfl <;> decide +kernel
theorem wrd_at (k : Nat) (h : k < 3) : (lwords.map V.str)[2 - k]? = some (.str (wdA false (2 - k))) ∧ (twords.map V.str)[2 - k]? = some (.str (wdA true (2 - k))) := by
  rcases (show k = 0 ∨ k = 1 ∨ k = 2 by omega) with rfl | rfl | rfl <;> decide +kernel
theorem sgn_ne (a : Bool) (k : Nat) (h : k < 3) : sgA a (2 - k) ≠ [] := by
  rcases (show k = 0 ∨ k = 1 ∨ k = 2 by omega) with rfl | rfl | rfl <;> cases a <;> decide +kernel
abbrev s_R_look : Stmt := inClass (topS 30) 5
abbrev n_R_look : List Str := ["self", "level", "tree"]
theorem sc_R_look : FnScope n_R_look ["self", "level"] (defScope s_R_look) := ⟨rfl, rfl, rfl, by decide +kernel, rfl, by decide +kernel, by decide +kernel⟩
theorem nm_R_look : nvB n_R_look (defScope s_R_look) 0 "self" = true ∧ nvB n_R_look (defScope s_R_look) 1 "level" = true ∧ nvB n_R_look (defScope s_R_look) 2 "tree" = true ∧ lvB n_R_look (defScope s_R_look) 2 "tree" = true ∧ gvB (defScope s_R_look) "LOOK_SIGNS" = true ∧ gvB (defScope s_R_look) "LOOK_WORDS" = true ∧ gvB (defScope s_R_look) "len" = true := by decide +kernel
theorem cl_R_look {Γ : Gm} {C : Addr} (dfn : DfM Γ C "look" "Reader.look" s_R_look ["self", "level"]) (T : Names Γ) {CE pw ps_ : Addr} {R : Bool → List Sy → Option Rs} {k n : Nat} (hk : k ≤ 3) (hn : 1 ≤ n) (L : KR Γ C) (tw : TpG Γ.K pw lwords) (ts_ : TpG Γ.K ps_ lsigns) (gc_LOOK_WORDS : ∃ u, Γ.mg "LOOK_WORDS" = some u ∧ RelV (.ref pw) u) (gc_LOOK_SIGNS : ∃ u, Γ.mg "LOOK_SIGNS" = some u ∧ RelV (.ref ps_) u) (m_taken : Mt Γ CX0 1 C "taken" (spTaken Γ.K C) []) (m_g : Mt Γ (CXN Γ) n C "guarded_look" (spRd Γ.K C CE [] (rdK R false 0)) []) (m_look : ∀ j, j < k → Mt Γ (CXN Γ) (n + j + 1) C "look" (spRd Γ.K C CE [.int (3 - (j : Int))] (rdK R false j)) []) : Mt Γ (CXN Γ) (n + k + 1) C "look" (spRd Γ.K C CE [.int (3 - (k : Int))] (rdK R false k)) [] := by
  refine dfn.mtN sc_R_look (fun vs H Q E h => ?_) (fun f cdv A outer s H vs Q E hg tk po h => ?_)
  · obtain ⟨A, i, rfl, _⟩ := h
    rfl
  obtain ⟨A, i, rfl, ht, nn, q⟩ := h
  have nd := sc_R_look.nd
  obtain ⟨v0, v1, v2, l2, g_LOOK_SIGNS, g_LOOK_WORDS, g_len⟩ := nm_R_look
  refine ⟨_, (pss_cons (ps_ifB (pt_cm (k_eq hg) (ps 1 v1) (pcb (k_len hg) g_len T.n_len bt_len (pa_cons (C8.pe_gc (gv_of g_LOOK_SIGNS).1 gc_LOOK_SIGNS) pa_nil)) (nomark _))
    (pss_one (ps_ret (pe_mwX0 hg tk (ps 0 v0))))
    pss_nil)
    (pss_cons (pst (i := 2) nd l2 (pe_mwX hg tk (ps 0 v0) (pa_cons (pe_op (k_add hg) (ps 1 v1) pe_int) pa_nil)))
    (pss_cons (ps_while po (pt_tr hg (pe_mw hg (ps 0 v0) (pa_cons (pe_ix (WX.ok hg) (C8.pe_gc (gv_of g_LOOK_SIGNS).1 gc_LOOK_SIGNS) (ps 1 v1) (fun _ _ => rfl)) pa_nil)))
    (pss_one (pst (i := 2) nd l2 (pe_tup (pa_cons (pe_ix (WX.ok hg) (C8.pe_gc (gv_of g_LOOK_WORDS).1 gc_LOOK_WORDS) (ps 1 v1) (fun _ _ => rfl)) (pa_cons (ps 2 v2) (pa_cons (pe_mwX hg tk (ps 0 v0) (pa_cons (pe_op (k_add hg) (ps 1 v1) pe_int) pa_nil)) pa_nil)))))))
    (pss_one (ps_ret (ps 2 v2)))))), ?_⟩
  refine st_start (σ := [some _, some _, none]) rfl ?_
  walk_at "dn"
  refine wc_len_t (ts_.sq H) ?_
  walk_at "di"
  have e3 : (lsigns.map V.str).length = 3 := rfl
  rw [e3]
  cases k with
  | zero =>
    refine br_t (by omega) ?_
    exact ⟨n, C, A.a, A.dx, A.fs i, _, [], ⟨m_g.ex⟩, by show n ≤ n + 0; omega, rfl, ht.r.ins, by rfl, A, i, rfl, ht, nn, q⟩
  | succ k =>
    refine br_f (by omega) ?_
    obtain ⟨g1, _⟩ := sgn_at k (by omega)
    obtain ⟨g2, _⟩ := wrd_at k (by omega)
    have g3 := sgn_ne false k (by omega)
    have arg : ∀ {j : Nat}, [V.ref A.a, V.int (3 - ((k + 1 : Nat) : Int) + 1)] = .ref A.a :: [V.int (3 - (k : Int))] := fun {j} => by rw [show 3 - ((k + 1 : Nat) : Int) + 1 = 3 - (k : Int) from by omega]
    refine ⟨n + k + 1, C, A.a, A.dx, A.fs i, _, [], ⟨(m_look k (by omega)).ex⟩, by show n + k + 1 ≤ n + (k + 1); omega, rfl, ht.r.ins, by rfl, A, i, arg (j := 0), ht, ?_⟩
    refine RsP.bind q nn Fr.refl fun t l p j H1 _ nn1 f1 r1 e1 t1 q1 => ?_
    refine ⟨fun m σ H2 => ∃ (t : Tr) (p : Addr) (j : Nat), σ = [some (.ref A.a), some (.int (3 - ((k + 1 : Nat) : Int))), some (.ref p)] ∧ Fr [A.a] H H2 ∧ RdQ Γ.K C A j H2 ∧ TrP Γ.K H2 t p ∧ lpR (rdK R false k) (sgA false (2 - k)) (wdA false (2 - k)) m t (A.ss.drop j) ≠ none ∧ RsP Γ.K C CE A (lpR (rdK R false k) (sgA false (2 - k)) (wdA false (2 - k)) m t (A.ss.drop j)) H Q E,
      ⟨_, t, p, j, rfl, f1, r1, t1, by rw [e1]; exact nn1, by rw [e1]; exact q1⟩, ?_⟩
    rintro m σ H2 ⟨t, p, j, rfl, f2, r2, t2, nn2, q2⟩
    walk_at "dn"
    cases m with
    | zero => exact absurd rfl nn2
    | succ m =>
    unfold lpR at nn2 q2
    refine ⟨1, C, A.a, A.dx, A.fs j, spTaken Γ.K C, [], E0, ⟨m_taken.ex⟩, by omega, rfl, r2.r.ins, by rfl, ?_⟩
    refine wx_t (ts_.sq H2) (atG (j := 2 - k) (by omega) g1) ?_
    refine ⟨A, j, _, _, rfl, r2.r, r2.sym, fun e H3 f3 r3 => ?_, fun e => ?_⟩
    · have e : hdS (A.ss.drop j) = sgA false (2 - k) := e
      rw [if_pos e] at nn2 q2
      have r3 := r2.next (by rw [e]; exact g3) r3
      walk_at "di"
      rw [if_pos rfl]
      refine ⟨fun σ' H' => ∃ (t : Tr) (p : Addr) (j : Nat), σ' = [some (.ref A.a), some (.int (3 - ((k + 1 : Nat) : Int))), some (.ref p)] ∧ Fr [A.a] H H' ∧ RdQ Γ.K C A j H' ∧ TrP Γ.K H' t p ∧ lpR (rdK R false k) (sgA false (2 - k)) (wdA false (2 - k)) m t (A.ss.drop j) ≠ none ∧ RsP Γ.K C CE A (lpR (rdK R false k) (sgA false (2 - k)) (wdA false (2 - k)) m t (A.ss.drop j)) H Q E, fun σ' H' h => ⟨m, by omega, h⟩, ?_⟩
      refine wx_t (tw.sq H3) (atG (j := 2 - k) (by omega) g2) ?_
      refine ⟨n + k + 1, C, A.a, A.dx, A.fs (j + 1), _, [], ⟨(m_look k (by omega)).ex⟩, by show n + k + 1 ≤ n + (k + 1); omega, rfl, r3.r.ins, by rfl, A, j + 1, arg (j := 0), r3, ?_⟩
      rw [← r2.tl] at nn2 q2
      refine RsP.bind q2 nn2 (f2.trans f3) fun t4 l4 p4 j4 H4 _ nn4 f4 r4 e4 t4' q4 => ?_
      refine ⟨szl (by simp only [List.length_cons, List.length_nil]; omega), fun T hT => ?_⟩
      have s5 := Same.mk (o := .tup [.str (wdA false (2 - k)), .ref p, .ref p4]) hT
      refine ⟨.two (wdA false (2 - k)) t t4, T, j4, rfl, ((f2.trans f3).trans f4).trans (Fr.of s5), r4.same s5, ⟨p, p4, SqT.of upd_same, (((t2.frA r2 f3).frA r3 f4).same s5), t4'.same s5⟩, by rw [e4]; exact nn4, by rw [e4]; exact q4⟩
    · have e : hdS (A.ss.drop j) ≠ sgA false (2 - k) := e
      rw [if_neg e] at nn2 q2
      walk_at "di"
      rw [if_neg (by decide)]
      exact q2 p j H2 f2 r2 rfl t2
/-- how each need is met -/
theorem RdQ.pass {K : PySem.W.Frag} {C : Addr} {A : RAd} {i : Nat} {H : Hp} (h : RdQ K C A i H) {s : List Nat} (e : hdS (A.ss.drop i) = s) (n : s ≠ []) {H' : Hp} (r : RdP K C A (i + 1) H') : RdQ K C A (i + 1) H' := h.next (by rw [e]; exact n) r
theorem needs {K : PySem.W.Frag} {C CE : Addr} {A : RAd} {s : List Nat} {j : Nat} {k : List Sy → Option Rs} {H0 H : Hp} {Q Q' : VK} {E : XK} (h : RsP K C CE A (needR s (A.ss.drop j) k) H0 Q E) (nn : needR s (A.ss.drop j) k ≠ none) (hs : s ≠ []) (f0 : Fr [A.a] H0 H) (r : RdQ K C A j H)
    (q : k (A.ss.drop (j + 1)) ≠ none → RsP K C CE A (k (A.ss.drop (j + 1))) H0 Q E → ∀ H', Fr [A.a] H H' → RdQ K C A (j + 1) H' → Q' .non H') : spNeedX K C CE [.ref A.a, .str (tx s)] H Q' E := by
  obtain ⟨q1, q2⟩ := RsP.needed h nn
  refine ⟨A, j, s, rfl, hs, r, fun e H' f r' => ?_, fun e d H' f => q2 e d H' (f0.trans f)⟩
  obtain ⟨a, b⟩ := q1 e
  rw [← r.tl] at a b
  exact q a b H' f r'
theorem nots_s (n : Nat) (t : Tr) : nots n (.one "not" t) = nots (n + 1) t := by
  induction n with
  | zero => rfl
  | succ n ih =>
    show Tr.one "not" (nots n (.one "not" t)) = _
    rw [ih]
    rfl
theorem whens_snoc (acc : List Tr) (x t : Tr) : whens (acc ++ [x]) t = whens acc (.two "when" t x) := by
  unfold whens
  rw [List.foldr_append]
  rfl
theorem _root_.G.TrPs.frL {K : PySem.W.Frag} {H H' : Hp} {b : Addr} {ys : List V} {ts : List Tr} {ps : List Addr} (h : TrPs K H ts ps) (f : Fr [b] H H') (hb : H b = some (.lst ys)) : TrPs K H' ts ps := by
  induction h with
  | nil => exact .nil
  | cons a _ ih => exact .cons (a.fr f hb) ih
theorem _root_.G.TrPs.frA {K : PySem.W.Frag} {C : Addr} {A : RAd} {i : Nat} {H H' : Hp} {ts : List Tr} {ps : List Addr} (h : TrPs K H ts ps) (r : RdQ K C A i H) (f : Fr [A.a] H H') : TrPs K H' ts ps := by
  induction h with
  | nil => exact .nil
  | cons a _ ih => exact .cons (a.frA r f) ih
theorem _root_.G.TrPs.snoc {K : PySem.W.Frag} {H : Hp} {ts : List Tr} {ps : List Addr} {t : Tr} {p : Addr} (h : TrPs K H ts ps) (k : TrP K H t p) : TrPs K H (ts ++ [t]) (ps ++ [p]) := by
  induction h with
  | nil => exact .cons k .nil
  | cons a _ ih => exact .cons a ih
theorem _root_.G.TrPs.unsnoc {K : PySem.W.Frag} {H : Hp} {ts : List Tr} {ps : List Addr} {t : Tr} (h : TrPs K H (ts ++ [t]) ps) : ∃ qs p, ps = qs ++ [p] ∧ TrPs K H ts qs ∧ TrP K H t p := by
  induction ts generalizing ps with
  | nil =>
    cases h with
    | cons a b => cases b; exact ⟨[], _, rfl, .nil, a⟩
  | cons u us ih =>
    cases h with
    | cons a b =>
      obtain ⟨qs, p, rfl, h1, h2⟩ := ih b
      exact ⟨_ :: qs, p, rfl, .cons a h1, h2⟩
abbrev s_R_slook : Stmt := inClass (topS 30) 7
abbrev n_R_slook : List Str := ["self", "symbol", "at", "tree"]
theorem sc_R_slook : FnScope n_R_slook ["self"] (defScope s_R_slook) := ⟨rfl, rfl, rfl, by decide +kernel, rfl, by decide +kernel, by decide +kernel⟩
theorem nm_R_slook : nvB n_R_slook (defScope s_R_slook) 0 "self" = true ∧ nvB n_R_slook (defScope s_R_slook) 1 "symbol" = true ∧ nvB n_R_slook (defScope s_R_slook) 2 "at" = true ∧ nvB n_R_slook (defScope s_R_slook) 3 "tree" = true ∧ lvB n_R_slook (defScope s_R_slook) 1 "symbol" = true ∧ lvB n_R_slook (defScope s_R_slook) 2 "at" = true ∧ lvB n_R_slook (defScope s_R_slook) 3 "tree" = true ∧ gvB (defScope s_R_slook) "BadText" = true := by decide +kernel
theorem cl_R_slook {Γ : Gm} {C : Addr} (dfn : DfM Γ C "single_look" "Reader.single_look" s_R_slook ["self"]) (T : Names Γ) {CE : Addr} {R : Bool → List Sy → Option Rs} {n : Nat} (hn : 3 ≤ n) (L : KR Γ C) (e_BadText : ErrK Γ 1 "BadText" CE 1 (fsD ["at"]) ["at"]) (m_taken : Mt Γ CX0 1 C "taken" (spTaken Γ.K C) []) (m_need : Mt Γ (CXN Γ) 3 C "need" (spNeedX Γ.K C CE) []) (m_look : Mt Γ (CXN Γ) n C "look" (spRd Γ.K C CE [.int 0] (R false)) []) : Mt Γ (CXN Γ) (n + 1) C "single_look" (spRd Γ.K C CE [] (sgL R)) [] := by
  refine dfn.mtN sc_R_slook (fun vs H Q E h => ?_) (fun f cdv A outer s H vs Q E hg tk po h => ?_)
  · obtain ⟨A, i, rfl, _⟩ := h
    rfl
  obtain ⟨A, i, rfl, ht, nn, q⟩ := h
  have nd := sc_R_slook.nd
  obtain ⟨v0, v1, v2, v3, l1, l2, l3, g_BadText⟩ := nm_R_slook
  refine ⟨_, (pss_cons (ps_asg (pe_ix (WX.ok hg) (pe_at (WA.ok hg) (ps 0 v0)) (pe_at (WA.ok hg) (ps 0 v0)) (fun _ _ => rfl)) (pg_tK hg 2 rfl (pgs_c (pgn (i := 1) nd l1) (pgs_c (pgn (i := 2) nd l2) pgs_0))))
    (pss_cons (ps_ifB (pt_tr hg (pe_mw hg (ps 0 v0) (pa_cons pe_str pa_nil)))
    (pss_one (ps_ret (pe_tup (pa_cons pe_str pa_nil))))
    pss_nil)
    (pss_cons (ps_ifB (pt_tr hg (pe_mw hg (ps 0 v0) (pa_cons pe_str pa_nil)))
    (pss_cons (pst (i := 3) nd l3 (pe_mwX hg tk (ps 0 v0) (pa_cons pe_int pa_nil)))
    (pss_cons (ps_expr (pe_mwX hg tk (ps 0 v0) (pa_cons pe_str pa_nil)))
    (pss_one (ps_ret (ps 3 v3)))))
    pss_nil)
    (pss_cons (ps_ifB (pt_cm (WO.ok hg) (pe_slice (WL.ok hg) (ps 1 v1) po_none (po_pt pe_int)) (pe_tup (pa_cons pe_str (pa_cons pe_str pa_nil))) (by with_unfolding_all rfl))
    (pss_one (ps_rz hg tk (pmkN e_BadText hg (by omega) g_BadText (pa_cons (ps 2 v2) pa_nil))))
    pss_nil)
    (pss_cons (ps_fldaug (ps 0 v0) pe_int in_add)
    (pss_one (ps_ret (pe_tup (pa_cons pe_str (pa_cons (pe_slice (WL.ok hg) (ps 1 v1) (po_pt pe_int) po_none) (pa_cons (pe_ifB (pt_cm (k_eq hg) (pe_ix (WX.ok hg) (ps 1 v1) pe_int (fun _ _ => rfl)) pe_str (nomark _)) pe_int (pe_un (k_neg hg) pe_int)) pa_nil))))))))))), ?_⟩
  refine st_start (σ := [some _, none, none, none]) rfl ?_
  walk_at "dn"
  unfold sgL at nn q
  obtain ⟨st, hst, hsq⟩ := ht.r.at_ ht.sym
  refine wa_sy L ht.r (wa_pl L ht.r (wx_l (SqL.of ht.r.ls) (v := .ref st) (at_nat hst) ?_))
  refine gt_of hsq rfl ?_
  walk_at "dn"
  refine ⟨1, C, A.a, A.dx, A.fs i, spTaken Γ.K C, [], E0, ⟨m_taken.ex⟩, by show 1 ≤ n; omega, rfl, ht.r.ins, by rfl, ?_⟩
  rw [ofs "here"]
  refine ⟨A, i, _, _, rfl, ht.r, ht.sym, fun e H1 f1 r1 => ?_, fun e => ?_⟩
  · have e : hdS (A.ss.drop i) = wd "here" := e
    rw [if_pos e] at q
    walk_at "di"
    refine ⟨szl (by simp only [List.length_cons, List.length_nil]; omega), fun T hT => ?_⟩
    have s2 := Same.mk (o := .tup [.str (Str.ofString "here")]) hT
    rw [← ht.tl] at q
    exact q T (i + 1) _ (f1.trans (Fr.of s2)) ((ht.pass e (by decide +kernel) r1).same s2) rfl (SqT.of upd_same)
  have e : ¬ hdS (A.ss.drop i) = wd "here" := e
  rw [if_neg e] at nn q
  walk_at "di"
  refine ⟨1, C, A.a, A.dx, A.fs i, spTaken Γ.K C, [], E0, ⟨m_taken.ex⟩, by show 1 ≤ n; omega, rfl, ht.r.ins, by rfl, ?_⟩
  rw [ofs "("]
  refine ⟨A, i, _, _, rfl, ht.r, ht.sym, fun e H1 f1 r1 => ?_, fun e => ?_⟩
  · have e : hdS (A.ss.drop i) = wd "(" := e
    rw [if_pos e, ← ht.tl] at nn q
    have r1 := ht.pass e (by decide +kernel) r1
    walk_at "di"
    refine ⟨n, C, A.a, A.dx, A.fs (i + 1), _, [], ⟨m_look.ex⟩, by show n ≤ n; omega, rfl, r1.r.ins, by rfl, A, i + 1, rfl, r1, ?_⟩
    refine RsP.bind q nn f1 fun t2 l2 p2 j2 H2 _ nn2 f2 r2 e2 t2' q2 => ?_
    refine ⟨3, C, A.a, A.dx, A.fs j2, _, [], ⟨m_need.ex⟩, by show 3 ≤ n; omega, rfl, r2.r.ins, by rfl, ?_⟩
    rw [← e2] at nn2 q2
    rw [ofs ")"]
    refine needs q2 nn2 (by decide +kernel) (f1.trans f2) r2 fun nn3 q3 H3 f3 r3 => ?_
    walk_at "di"
    exact q3 p2 (j2 + 1) H3 ((f1.trans f2).trans f3) r3 rfl (t2'.frA r2 f3)
  have e : ¬ hdS (A.ss.drop i) = wd "(" := e
  rw [if_neg e] at nn q
  walk_at "di"
  have hsh := ht.short
  obtain ⟨ws, hws⟩ : ∃ ws, hdS (A.ss.drop i) = ws := ⟨_, rfl⟩
  rw [hws] at nn q hsh ⊢
  refine wl_s (by rw [tx_len]; exact szl (by omega)) ?_
  rw [show (some (1 : Int)) = some ((1 : Nat) : Int) from rfl, cut_tx0]
  refine ⟨szl (by simp only [List.length_cons, List.length_nil]; omega), fun T hT => ?_⟩
  have sT := Same.mk (o := .tup [.str (Str.ofString "+"), .str (Str.ofString "-")]) hT
  refine wo_niS (xs := [Str.ofString "+", Str.ofString "-"]) (.inr (SqT.of upd_same)) ?_
  have ep : Str.ofString "+" = tx [43] := by decide +kernel
  have em : Str.ofString "-" = tx [45] := by decide +kernel
  have eB : decide (tx (ws.take 1) ∈ [Str.ofString "+", Str.ofString "-"]) = decide (ws.head? = some 43 ∨ ws.head? = some 45) := by
    refine decide_eq_decide.mpr ?_
    rw [ep, em]
    cases ws with
    | nil => simp [tx]
    | cons c r => simp [tx]
  rw [eB]
  walk_at "di"
  by_cases hpm : ws.head? = some 43 ∨ ws.head? = some 45
  · rw [if_pos hpm, ← ht.tl] at q
    refine br_nt hpm ?_
    obtain ⟨c, r, rfl⟩ : ∃ c r, ws = c :: r := by
      cases ws with
      | nil => simp at hpm
      | cons c r => exact ⟨c, r, rfl⟩
    have ht2 := ht.same sT
    dsimp only [L2.sFldAug]
    walk_at "dn"
    refine ⟨A.a, C, A.dx, A.fs i, .int i, rfl, ht2.r.ins, L.k.cls, L.n2, by rfl, i, 1, rfl, rfl, A.dx, A.fs i, ht2.r.ins, by show 3 < 1000; omega, ?_⟩
    rw [fld_go]
    have r3 := ht2.next (by rw [hws]; exact fun z => by cases z) ht2.r.go
    have f3 : Fr [A.a] H _ := (Fr.of sT).trans (Fr.upd (o := .ins C A.dx (A.fs (i + 1))) (.head _))
    refine wl_s (by rw [tx_len]; exact szl (by omega)) ?_
    rw [show (some (1 : Int)) = some ((1 : Nat) : Int) from rfl, cut_tx1]
    refine wx_tx (i := 0) (szl (by omega)) (c := c) rfl ?_
    walk_at "di"
    have tl : (c :: r).drop 1 = r := rfl
    have fin : ∀ (d : Int), (if some c = some 43 then (1 : Int) else -1) = d → ∀ T2, _ = none → Q (.ref T2) (upd _ T2 (.tup [.str (Str.ofString "step"), .str (tx r), .int d])) := fun d hd T2 hT2 => by
      have s4 := Same.mk (o := .tup [.str (Str.ofString "step"), .str (tx r), .int d]) hT2
      refine q T2 (i + 1) _ (f3.trans (Fr.of s4)) (r3.same s4) rfl ?_
      show TrP Γ.K _ (.st (tx r) (if some c = some 43 then (1 : Int) else -1)) T2
      rw [hd]
      exact SqT.of upd_same
    have ec : decide ((⟨#[c]⟩ : Str) = Str.ofString "+") = decide (c = 43) := by
      refine decide_eq_decide.mpr ?_
      rw [ep]
      simp [tx]
    rw [ec]
    refine br_d (fun hc => ?_) (fun hc => ?_)
    · exact ⟨szl (by simp only [List.length_cons, List.length_nil]; omega), fin 1 (if_pos (by rw [hc]))⟩
    · exact ⟨szl (by simp only [List.length_cons, List.length_nil]; omega), fin (-1) (if_neg (by intro z; cases z; exact hc rfl))⟩
  · rw [if_neg hpm] at q
    refine br_nf hpm ?_
    exact ⟨rfl, fun d hd => q d _ ((Fr.of sT).trans (Fr.new hd)) upd_same⟩
abbrev s_R_test : Stmt := inClass (topS 30) 8
abbrev n_R_test : List Str := ["self", "level", "tree"]
theorem sc_R_test : FnScope n_R_test ["self", "level"] (defScope s_R_test) := ⟨rfl, rfl, rfl, by decide +kernel, rfl, by decide +kernel, by decide +kernel⟩
theorem nm_R_test : nvB n_R_test (defScope s_R_test) 0 "self" = true ∧ nvB n_R_test (defScope s_R_test) 1 "level" = true ∧ nvB n_R_test (defScope s_R_test) 2 "tree" = true ∧ lvB n_R_test (defScope s_R_test) 2 "tree" = true ∧ gvB (defScope s_R_test) "TEST_SIGNS" = true ∧ gvB (defScope s_R_test) "TEST_WORDS" = true ∧ gvB (defScope s_R_test) "len" = true := by decide +kernel
theorem cl_R_test {Γ : Gm} {C : Addr} (dfn : DfM Γ C "test" "Reader.test" s_R_test ["self", "level"]) (T : Names Γ) {CE pw ps_ : Addr} {R : Bool → List Sy → Option Rs} {k n : Nat} (hk : k ≤ 3) (hn : 1 ≤ n) (L : KR Γ C) (tw : TpG Γ.K pw twords) (ts_ : TpG Γ.K ps_ tsigns) (gc_TEST_WORDS : ∃ u, Γ.mg "TEST_WORDS" = some u ∧ RelV (.ref pw) u) (gc_TEST_SIGNS : ∃ u, Γ.mg "TEST_SIGNS" = some u ∧ RelV (.ref ps_) u) (m_taken : Mt Γ CX0 1 C "taken" (spTaken Γ.K C) []) (m_g : Mt Γ (CXN Γ) n C "turned_test" (spRd Γ.K C CE [] (rdK R true 0)) []) (m_test : ∀ j, j < k → Mt Γ (CXN Γ) (n + j + 1) C "test" (spRd Γ.K C CE [.int (3 - (j : Int))] (rdK R true j)) []) : Mt Γ (CXN Γ) (n + k + 1) C "test" (spRd Γ.K C CE [.int (3 - (k : Int))] (rdK R true k)) [] := by
  refine dfn.mtN sc_R_test (fun vs H Q E h => ?_) (fun f cdv A outer s H vs Q E hg tk po h => ?_)
  · obtain ⟨A, i, rfl, _⟩ := h
    rfl
  obtain ⟨A, i, rfl, ht, nn, q⟩ := h
  have nd := sc_R_test.nd
  obtain ⟨v0, v1, v2, l2, g_TEST_SIGNS, g_TEST_WORDS, g_len⟩ := nm_R_test
  refine ⟨_, (pss_cons (ps_ifB (pt_cm (k_eq hg) (ps 1 v1) (pcb (k_len hg) g_len T.n_len bt_len (pa_cons (C8.pe_gc (gv_of g_TEST_SIGNS).1 gc_TEST_SIGNS) pa_nil)) (nomark _))
    (pss_one (ps_ret (pe_mwX0 hg tk (ps 0 v0))))
    pss_nil)
    (pss_cons (pst (i := 2) nd l2 (pe_mwX hg tk (ps 0 v0) (pa_cons (pe_op (k_add hg) (ps 1 v1) pe_int) pa_nil)))
    (pss_cons (ps_while po (pt_tr hg (pe_mw hg (ps 0 v0) (pa_cons (pe_ix (WX.ok hg) (C8.pe_gc (gv_of g_TEST_SIGNS).1 gc_TEST_SIGNS) (ps 1 v1) (fun _ _ => rfl)) pa_nil)))
    (pss_one (pst (i := 2) nd l2 (pe_tup (pa_cons (pe_ix (WX.ok hg) (C8.pe_gc (gv_of g_TEST_WORDS).1 gc_TEST_WORDS) (ps 1 v1) (fun _ _ => rfl)) (pa_cons (ps 2 v2) (pa_cons (pe_mwX hg tk (ps 0 v0) (pa_cons (pe_op (k_add hg) (ps 1 v1) pe_int) pa_nil)) pa_nil)))))))
    (pss_one (ps_ret (ps 2 v2)))))), ?_⟩
  refine st_start (σ := [some _, some _, none]) rfl ?_
  walk_at "dn"
  refine wc_len_t (ts_.sq H) ?_
  walk_at "di"
  have e3 : (tsigns.map V.str).length = 3 := rfl
  rw [e3]
  cases k with
  | zero =>
    refine br_t (by omega) ?_
    exact ⟨n, C, A.a, A.dx, A.fs i, _, [], ⟨m_g.ex⟩, by show n ≤ n + 0; omega, rfl, ht.r.ins, by rfl, A, i, rfl, ht, nn, q⟩
  | succ k =>
    refine br_f (by omega) ?_
    obtain ⟨_, g1⟩ := sgn_at k (by omega)
    obtain ⟨_, g2⟩ := wrd_at k (by omega)
    have g3 := sgn_ne true k (by omega)
    have arg : ∀ {j : Nat}, [V.ref A.a, V.int (3 - ((k + 1 : Nat) : Int) + 1)] = .ref A.a :: [V.int (3 - (k : Int))] := fun {j} => by rw [show 3 - ((k + 1 : Nat) : Int) + 1 = 3 - (k : Int) from by omega]
    refine ⟨n + k + 1, C, A.a, A.dx, A.fs i, _, [], ⟨(m_test k (by omega)).ex⟩, by show n + k + 1 ≤ n + (k + 1); omega, rfl, ht.r.ins, by rfl, A, i, arg (j := 0), ht, ?_⟩
    refine RsP.bind q nn Fr.refl fun t l p j H1 _ nn1 f1 r1 e1 t1 q1 => ?_
    refine ⟨fun m σ H2 => ∃ (t : Tr) (p : Addr) (j : Nat), σ = [some (.ref A.a), some (.int (3 - ((k + 1 : Nat) : Int))), some (.ref p)] ∧ Fr [A.a] H H2 ∧ RdQ Γ.K C A j H2 ∧ TrP Γ.K H2 t p ∧ lpR (rdK R true k) (sgA true (2 - k)) (wdA true (2 - k)) m t (A.ss.drop j) ≠ none ∧ RsP Γ.K C CE A (lpR (rdK R true k) (sgA true (2 - k)) (wdA true (2 - k)) m t (A.ss.drop j)) H Q E,
      ⟨_, t, p, j, rfl, f1, r1, t1, by rw [e1]; exact nn1, by rw [e1]; exact q1⟩, ?_⟩
    rintro m σ H2 ⟨t, p, j, rfl, f2, r2, t2, nn2, q2⟩
    walk_at "dn"
    cases m with
    | zero => exact absurd rfl nn2
    | succ m =>
    unfold lpR at nn2 q2
    refine ⟨1, C, A.a, A.dx, A.fs j, spTaken Γ.K C, [], E0, ⟨m_taken.ex⟩, by omega, rfl, r2.r.ins, by rfl, ?_⟩
    refine wx_t (ts_.sq H2) (atG (j := 2 - k) (by omega) g1) ?_
    refine ⟨A, j, _, _, rfl, r2.r, r2.sym, fun e H3 f3 r3 => ?_, fun e => ?_⟩
    · have e : hdS (A.ss.drop j) = sgA true (2 - k) := e
      rw [if_pos e] at nn2 q2
      have r3 := r2.next (by rw [e]; exact g3) r3
      walk_at "di"
      rw [if_pos rfl]
      refine ⟨fun σ' H' => ∃ (t : Tr) (p : Addr) (j : Nat), σ' = [some (.ref A.a), some (.int (3 - ((k + 1 : Nat) : Int))), some (.ref p)] ∧ Fr [A.a] H H' ∧ RdQ Γ.K C A j H' ∧ TrP Γ.K H' t p ∧ lpR (rdK R true k) (sgA true (2 - k)) (wdA true (2 - k)) m t (A.ss.drop j) ≠ none ∧ RsP Γ.K C CE A (lpR (rdK R true k) (sgA true (2 - k)) (wdA true (2 - k)) m t (A.ss.drop j)) H Q E, fun σ' H' h => ⟨m, by omega, h⟩, ?_⟩
      refine wx_t (tw.sq H3) (atG (j := 2 - k) (by omega) g2) ?_
      refine ⟨n + k + 1, C, A.a, A.dx, A.fs (j + 1), _, [], ⟨(m_test k (by omega)).ex⟩, by show n + k + 1 ≤ n + (k + 1); omega, rfl, r3.r.ins, by rfl, A, j + 1, arg (j := 0), r3, ?_⟩
      rw [← r2.tl] at nn2 q2
      refine RsP.bind q2 nn2 (f2.trans f3) fun t4 l4 p4 j4 H4 _ nn4 f4 r4 e4 t4' q4 => ?_
      refine ⟨szl (by simp only [List.length_cons, List.length_nil]; omega), fun T hT => ?_⟩
      have s5 := Same.mk (o := .tup [.str (wdA true (2 - k)), .ref p, .ref p4]) hT
      refine ⟨.two (wdA true (2 - k)) t t4, T, j4, rfl, ((f2.trans f3).trans f4).trans (Fr.of s5), r4.same s5, ⟨p, p4, SqT.of upd_same, (((t2.frA r2 f3).frA r3 f4).same s5), t4'.same s5⟩, by rw [e4]; exact nn4, by rw [e4]; exact q4⟩
    · have e : hdS (A.ss.drop j) ≠ sgA true (2 - k) := e
      rw [if_neg e] at nn2 q2
      walk_at "di"
      rw [if_neg (by decide)]
      exact q2 p j H2 f2 r2 rfl t2
abbrev s_R_guard : Stmt := inClass (topS 30) 6
abbrev n_R_guard : List Str := ["self", "tests", "tree"]
theorem sc_R_guard : FnScope n_R_guard ["self"] (defScope s_R_guard) := ⟨rfl, rfl, rfl, by decide +kernel, rfl, by decide +kernel, by decide +kernel⟩
theorem nm_R_guard : nvB n_R_guard (defScope s_R_guard) 0 "self" = true ∧ nvB n_R_guard (defScope s_R_guard) 1 "tests" = true ∧ nvB n_R_guard (defScope s_R_guard) 2 "tree" = true ∧ lvB n_R_guard (defScope s_R_guard) 1 "tests" = true ∧ lvB n_R_guard (defScope s_R_guard) 2 "tree" = true := by decide +kernel
theorem cl_R_guard {Γ : Gm} {C : Addr} (dfn : DfM Γ C "guarded_look" "Reader.guarded_look" s_R_guard ["self"]) (T : Names Γ) {CE : Addr} {R : Bool → List Sy → Option Rs} {n : Nat} (hn : 3 ≤ n) (L : KR Γ C) (m_taken : Mt Γ CX0 1 C "taken" (spTaken Γ.K C) []) (m_need : Mt Γ (CXN Γ) 3 C "need" (spNeedX Γ.K C CE) []) (m_test : Mt Γ (CXN Γ) n C "test" (spRd Γ.K C CE [.int 0] (R true)) []) (m_single : Mt Γ (CXN Γ) (n + 1) C "single_look" (spRd Γ.K C CE [] (sgL R)) []) : Mt Γ (CXN Γ) (n + 2) C "guarded_look" (spRd Γ.K C CE [] (rdK R false 0)) [] := by
  refine dfn.mtN sc_R_guard (fun vs H Q E h => ?_) (fun f cdv A outer s H vs Q E hg tk po h => ?_)
  · obtain ⟨A, i, rfl, _⟩ := h
    rfl
  obtain ⟨A, i, rfl, ht, nn, q⟩ := h
  have nd := sc_R_guard.nd
  obtain ⟨v0, v1, v2, l1, l2⟩ := nm_R_guard
  refine ⟨_, (pss_cons (pst (i := 1) nd l1 (pe_lst pa_nil))
    (pss_cons (ps_while po (pt_tr hg (pe_mw hg (ps 0 v0) (pa_cons pe_str pa_nil)))
    (pss_cons (ps_expr (pe_bmK hg PySem.F.plainAttrs_list PySem.F.slot_list_append PySem.F.type_list_append mt_append (ps 1 v1) (pa_cons (pe_mwX hg tk (ps 0 v0) (pa_cons pe_int pa_nil)) pa_nil)))
    (pss_one (ps_expr (pe_mwX hg tk (ps 0 v0) (pa_cons pe_str pa_nil))))))
    (pss_cons (pst (i := 2) nd l2 (pe_mwX0 hg tk (ps 0 v0)))
    (pss_cons (ps_while po (pt_tr hg (ps 1 v1))
    (pss_one (pst (i := 2) nd l2 (pe_tup (pa_cons pe_str (pa_cons (ps 2 v2) (pa_cons (pe_bmK0 hg PySem.F.plainAttrs_list PySem.F.slot_list_pop PySem.F.type_list_pop mt_pop (ps 1 v1)) pa_nil)))))))
    (pss_one (ps_ret (ps 2 v2))))))), ?_⟩
  refine st_start (σ := [some _, none, none]) rfl ?_
  walk_at "dn"
  refine ⟨szl (by simp only [List.length_nil]; omega), fun p0 hp0 => ?_⟩
  have s0 := Same.mk (o := .lst []) hp0
  have na : A.a ≠ p0 := fun z => by have := ht.r.ins; rw [z, hp0] at this; cases this
  have np : A.p ≠ p0 := fun z => by have := ht.r.ls; rw [z, hp0] at this; cases this
  have frp : ∀ {H1 : Hp} {o : HO}, Fr [A.a] H H1 → Fr [A.a] H (upd H1 p0 o) := fun f a u n e => by
    rw [upd_ne (fun z => by rw [z, hp0] at e; cases e)]
    exact f a u n e
  have stay : ∀ {H1 H2 : Hp} {xs : List V}, Fr [A.a] H1 H2 → H1 p0 = some (.lst xs) → H2 p0 = some (.lst xs) := fun f h => f _ _ (fun z => na (List.mem_singleton.mp z).symm) h
  refine ⟨fun m σ H2 => ∃ (acc : List Tr) (ps : List Addr) (j : Nat), σ = [some (.ref A.a), some (.ref p0), none] ∧ acc.length < 90000 ∧ m + acc.length < 90000 ∧ Fr [A.a] H H2 ∧ H2 p0 = some (.lst (ps.map V.ref)) ∧ TrPs Γ.K H2 acc ps ∧ RdQ Γ.K C A j H2 ∧ gdR R m acc (A.ss.drop j) ≠ none ∧ RsP Γ.K C CE A (gdR R m acc (A.ss.drop j)) H Q E,
    ⟨_, [], [], i, rfl, by decide, ?_, Fr.of s0, upd_same, .nil, ht.same s0, nn, q⟩, ?_⟩
  · show (A.ss.drop i).length + 1 + 0 < 90000
    have := ht.le
    rw [List.length_drop]
    omega
  rintro m σ H2 ⟨acc, ps, j, rfl, ha1, ha2, f2, hl2, ht2, r2, nn2, q2⟩
  walk_at "dn"
  cases m with
  | zero => exact absurd rfl nn2
  | succ m =>
  unfold gdR at nn2 q2
  refine ⟨1, C, A.a, A.dx, A.fs j, spTaken Γ.K C, [], E0, ⟨m_taken.ex⟩, by show 1 ≤ n + 1; omega, rfl, r2.r.ins, by rfl, ?_⟩
  rw [ofs "["]
  refine ⟨A, j, _, _, rfl, r2.r, r2.sym, fun e H3 f3 r3 => ?_, fun e => ?_⟩
  · have e : hdS (A.ss.drop j) = wd "[" := e
    rw [if_pos e, ← r2.tl] at nn2 q2
    have r3 := r2.pass e (by decide +kernel) r3
    walk_at "di"
    rw [if_pos rfl]
    refine ⟨fun σ' H2 => ∃ (acc : List Tr) (ps : List Addr) (j : Nat), σ' = [some (.ref A.a), some (.ref p0), none] ∧ acc.length < 90000 ∧ m + acc.length < 90000 ∧ Fr [A.a] H H2 ∧ H2 p0 = some (.lst (ps.map V.ref)) ∧ TrPs Γ.K H2 acc ps ∧ RdQ Γ.K C A j H2 ∧ gdR R m acc (A.ss.drop j) ≠ none ∧ RsP Γ.K C CE A (gdR R m acc (A.ss.drop j)) H Q E, fun σ' H' h => ⟨m, by omega, h⟩, ?_⟩
    have hl3 := stay f3 hl2
    refine ⟨ty_l (SqL.of hl3), ?_⟩
    refine ⟨n, C, A.a, A.dx, A.fs (j + 1), _, [], ⟨m_test.ex⟩, by show n ≤ n + 1; omega, rfl, r3.r.ins, by rfl, A, j + 1, rfl, r3, ?_⟩
    refine RsP.bind q2 nn2 (f2.trans f3) fun t4 l4 p4 j4 H4 _ nn4 f4 r4 e4 t4' q4 => ?_
    have hl4 := stay f4 hl3
    have hps : ps.length = acc.length := ht2.len
    refine ⟨p0, ps.map V.ref, .ref p4, rfl, rfl, hl4, lt_size (by rw [List.length_map]; omega), ?_⟩
    walk_at "di"
    have f5 : Fr [p0] H4 (upd H4 p0 (.lst (ps.map V.ref ++ [V.ref p4]))) := Fr.upd (.head _)
    have r5 := r4.frL f5 hl4 np
    refine ⟨3, C, A.a, A.dx, A.fs j4, _, [], ⟨m_need.ex⟩, by show 3 ≤ n + 1; omega, rfl, r5.r.ins, by rfl, ?_⟩
    rw [← e4] at nn4 q4
    rw [ofs "]"]
    refine needs q4 nn4 (by decide +kernel) (frp ((f2.trans f3).trans f4)) r5 fun nn6 q6 H6 f6 r6 => ?_
    refine ⟨acc ++ [t4], ps ++ [p4], j4 + 1, rfl, by rw [List.length_append, List.length_singleton]; omega, by rw [List.length_append, List.length_singleton]; omega, (frp ((f2.trans f3).trans f4)).trans f6, ?_, ?_, r6, nn6, q6⟩
    · rw [List.map_append]
      exact stay f6 upd_same
    · exact ((((ht2.frA r2 f3).frA r3 f4).snoc t4').frL f5 hl4).frA r5 f6
  · have e : ¬ hdS (A.ss.drop j) = wd "[" := e
    rw [if_neg e] at nn2 q2
    walk_at "di"
    rw [if_neg (by decide)]
    refine ⟨n + 1, C, A.a, A.dx, A.fs j, _, [], ⟨m_single.ex⟩, by show n + 1 ≤ n + 1; omega, rfl, r2.r.ins, by rfl, A, j, rfl, r2, ?_⟩
    refine RsP.bind q2 nn2 f2 fun t4 l4 p4 j4 H4 _ nn4 f4 r4 e4 t4' q4 => ?_
    have hl4 := stay f4 hl2
    refine ⟨fun m σ H2 => ∃ (acc2 : List Tr) (ps : List Addr) (t : Tr) (p : Addr), σ = [some (.ref A.a), some (.ref p0), some (.ref p)] ∧ m = acc2.length ∧ Fr [A.a] H H2 ∧ H2 p0 = some (.lst (ps.map V.ref)) ∧ TrPs Γ.K H2 acc2 ps ∧ RdQ Γ.K C A j4 H2 ∧ TrP Γ.K H2 t p ∧ whens acc2 t = whens acc t4,
      ⟨_, acc, ps, t4, p4, rfl, rfl, f2.trans f4, hl4, ht2.frA r2 f4, r4, t4', rfl⟩, ?_⟩
    rintro m σ H5 ⟨acc2, ps2, t5, p5, rfl, rfl, f5, hl5, ht5, r5, t5', e5⟩
    walk_at "dn"
    refine ⟨_, .inl ⟨_, SqL.of hl5, rfl⟩, ?_⟩
    by_cases hz : acc2 = []
    · subst hz
      have e0 : ps2 = [] := List.eq_nil_of_length_eq_zero ht5.len
      subst e0
      rw [if_neg (by decide)]
      refine q4 p5 j4 H5 f5 r5 e4 ?_
      rw [← e5]
      exact t5'
    · obtain ⟨acc3, x, rfl⟩ : ∃ a x, acc2 = a ++ [x] := ⟨_, _, (List.dropLast_concat_getLast hz).symm⟩
      obtain ⟨qs, px, rfl, h1, h2⟩ := ht5.unsnoc
      rw [List.map_append] at hl5
      rw [if_pos (by rw [List.map_append]; simp)]
      refine ⟨fun σ' H2 => ∃ (acc2 : List Tr) (ps : List Addr) (t : Tr) (p : Addr), σ' = [some (.ref A.a), some (.ref p0), some (.ref p)] ∧ acc3.length = acc2.length ∧ Fr [A.a] H H2 ∧ H2 p0 = some (.lst (ps.map V.ref)) ∧ TrPs Γ.K H2 acc2 ps ∧ RdQ Γ.K C A j4 H2 ∧ TrP Γ.K H2 t p ∧ whens acc2 t = whens acc t4, fun σ' H' h => ⟨acc3.length, by rw [List.length_append, List.length_singleton]; omega, h⟩, ?_⟩
      refine ⟨ty_l (SqL.of hl5), p0, _, V.ref px, rfl, rfl, hl5, ?_, ?_⟩
      · simp
      walk_at "di"
      have el : (qs.map V.ref ++ [px].map V.ref).dropLast = qs.map V.ref := by
        show (qs.map V.ref ++ [V.ref px]).dropLast = _
        rw [List.dropLast_concat]
      rw [el]
      refine ⟨szl (by simp only [List.length_cons, List.length_nil]; omega), fun T hT => ?_⟩
      have f6 : Fr [p0] H5 (upd H5 p0 (.lst (qs.map V.ref))) := Fr.upd (.head _)
      have s7 := Same.mk (o := .tup [.str (Str.ofString "when"), .ref p5, .ref px]) hT
      exact ⟨acc3, qs, .two "when" t5 x, T, rfl, rfl, (frp f5).trans (Fr.of s7), s7 _ _ upd_same, (h1.frL f6 hl5).same s7, (r5.frL f6 hl5 np).same s7, ⟨p5, px, SqT.of upd_same, (t5'.fr f6 hl5).same s7, (h2.fr f6 hl5).same s7⟩, by rw [← e5, whens_snoc]⟩
abbrev s_R_turned : Stmt := inClass (topS 30) 9
abbrev n_R_turned : List Str := ["self", "count", "tree", "nth"]
theorem sc_R_turned : FnScope n_R_turned ["self"] (defScope s_R_turned) := ⟨rfl, rfl, rfl, by decide +kernel, rfl, by decide +kernel, by decide +kernel⟩
theorem nm_R_turned : nvB n_R_turned (defScope s_R_turned) 0 "self" = true ∧ nvB n_R_turned (defScope s_R_turned) 1 "count" = true ∧ nvB n_R_turned (defScope s_R_turned) 2 "tree" = true ∧ lvB n_R_turned (defScope s_R_turned) 1 "count" = true ∧ lvB n_R_turned (defScope s_R_turned) 2 "tree" = true ∧ lvB n_R_turned (defScope s_R_turned) 3 "nth" = true ∧ gvB (defScope s_R_turned) "range" = true := by decide +kernel
theorem cl_R_turned {Γ : Gm} {C : Addr} (dfn : DfM Γ C "turned_test" "Reader.turned_test" s_R_turned ["self"]) (T : Names Γ) {CE : Addr} {R : Bool → List Sy → Option Rs} {n : Nat} (hn : 3 ≤ n) (L : KR Γ C) (m_taken : Mt Γ CX0 1 C "taken" (spTaken Γ.K C) []) (m_single : Mt Γ (CXN Γ) (n + 1) C "single_test" (spRd Γ.K C CE [] (sgT R)) []) : Mt Γ (CXN Γ) (n + 2) C "turned_test" (spRd Γ.K C CE [] (rdK R true 0)) [] := by
  refine dfn.mtN sc_R_turned (fun vs H Q E h => ?_) (fun f cdv A outer s H vs Q E hg tk po h => ?_)
  · obtain ⟨A, i, rfl, _⟩ := h
    rfl
  obtain ⟨A, i, rfl, ht, nn, q⟩ := h
  have nd := sc_R_turned.nd
  obtain ⟨v0, v1, v2, l1, l2, l3, g_range⟩ := nm_R_turned
  refine ⟨_, (pss_cons (pst (i := 1) nd l1 pe_int)
    (pss_cons (ps_while po (pt_tr hg (pe_mw hg (ps 0 v0) (pa_cons pe_str pa_nil)))
    (pss_one (ps_aug (i := 1) nd rfl (by first | exact .inl rfl | exact .inr rfl) pe_int (WI.ok hg))))
    (pss_cons (pst (i := 2) nd l2 (pe_mwX0 hg tk (ps 0 v0)))
    (pss_cons (ps_for po rfl (pi_r1 g_range T.n_range (pa_cons (ps 1 v1) pa_nil)) (pgn (i := 3) nd l3)
    (pss_one (pst (i := 2) nd l2 (pe_tup (pa_cons pe_str (pa_cons (ps 2 v2) pa_nil))))))
    (pss_one (ps_ret (ps 2 v2))))))), ?_⟩
  refine st_start (σ := [some _, none, none, none]) rfl ?_
  walk_at "dn"
  refine ⟨fun m σ H2 => ∃ c j : Nat, σ = [some (.ref A.a), some (.int c), none, none] ∧ m + c < 90000 ∧ Fr [A.a] H H2 ∧ RdQ Γ.K C A j H2 ∧ tnR R m c (A.ss.drop j) ≠ none ∧ RsP Γ.K C CE A (tnR R m c (A.ss.drop j)) H Q E,
    ⟨_, 0, i, rfl, ?_, Fr.refl, ht, nn, q⟩, ?_⟩
  · show (A.ss.drop i).length + 1 + 0 < 90000
    have := ht.le
    rw [List.length_drop]
    omega
  rintro m σ H2 ⟨c, j, rfl, hc, f2, r2, nn2, q2⟩
  walk_at "dn"
  cases m with
  | zero => exact absurd rfl nn2
  | succ m =>
  unfold tnR at nn2 q2
  refine ⟨1, C, A.a, A.dx, A.fs j, spTaken Γ.K C, [], E0, ⟨m_taken.ex⟩, by show 1 ≤ n + 1; omega, rfl, r2.r.ins, by rfl, ?_⟩
  rw [ofs "~"]
  refine ⟨A, j, _, _, rfl, r2.r, r2.sym, fun e H3 f3 r3 => ?_, fun e => ?_⟩
  · have e : hdS (A.ss.drop j) = wd "~" := e
    rw [if_pos e, ← r2.tl] at nn2 q2
    have r3 := r2.pass e (by decide +kernel) r3
    walk_at "di"
    rw [if_pos rfl]
    refine ⟨fun σ' H2 => ∃ c j : Nat, σ' = [some (.ref A.a), some (.int c), none, none] ∧ m + c < 90000 ∧ Fr [A.a] H H2 ∧ RdQ Γ.K C A j H2 ∧ tnR R m c (A.ss.drop j) ≠ none ∧ RsP Γ.K C CE A (tnR R m c (A.ss.drop j)) H Q E, fun σ' H' h => ⟨m, by omega, h⟩, ?_⟩
    refine ⟨_, rfl, wi_add ?_⟩
    exact ⟨c + 1, j + 1, rfl, by omega, f2.trans f3, r3, nn2, q2⟩
  · have e : ¬ hdS (A.ss.drop j) = wd "~" := e
    rw [if_neg e] at nn2 q2
    walk_at "di"
    rw [if_neg (by decide)]
    refine ⟨n + 1, C, A.a, A.dx, A.fs j, _, [], ⟨m_single.ex⟩, by show n + 1 ≤ n + 1; omega, rfl, r2.r.ins, by rfl, A, j, rfl, r2, ?_⟩
    refine RsP.bind q2 nn2 f2 fun t4 l4 p4 j4 H4 _ nn4 f4 r4 e4 t4' q4 => ?_
    refine ⟨c, rfl, by omega, by omega, ?_⟩
    rw [Int.toNat_natCast]
    refine lp_range (fun k σ' H' => ∃ (p : Addr) (a4 : Option V), σ' = [some (.ref A.a), some (.int c), some (.ref p), a4] ∧ Same H4 H' ∧ TrP Γ.K H' (nots k t4) p) ⟨p4, _, rfl, Same.refl _, t4'⟩ ?_ ?_
    · rintro k σ' H5 hk ⟨p5, a4, rfl, s5, t5⟩
      walk_at "dn"
      refine ⟨szl (by simp only [List.length_cons, List.length_nil]; omega), fun T hT => ?_⟩
      have s6 := Same.mk (o := .tup [.str (Str.ofString "not"), .ref p5]) hT
      exact ⟨T, _, rfl, s5.trans s6, p5, SqT.of upd_same, t5.same s6⟩
    · rintro σ' H5 ⟨p5, a4, rfl, s5, t5⟩
      walk_at "dn"
      exact q4 p5 j4 H5 ((f2.trans f4).trans (Fr.of s5)) (r4.same s5) e4 t5
abbrev s_R_stest : Stmt := inClass (topS 30) 10
abbrev n_R_stest : List Str := ["self", "symbol", "at", "tree"]
theorem sc_R_stest : FnScope n_R_stest ["self"] (defScope s_R_stest) := ⟨rfl, rfl, rfl, by decide +kernel, rfl, by decide +kernel, by decide +kernel⟩
theorem nm_R_stest : nvB n_R_stest (defScope s_R_stest) 0 "self" = true ∧ nvB n_R_stest (defScope s_R_stest) 1 "symbol" = true ∧ nvB n_R_stest (defScope s_R_stest) 2 "at" = true ∧ nvB n_R_stest (defScope s_R_stest) 3 "tree" = true ∧ lvB n_R_stest (defScope s_R_stest) 1 "symbol" = true ∧ lvB n_R_stest (defScope s_R_stest) 2 "at" = true ∧ lvB n_R_stest (defScope s_R_stest) 3 "tree" = true ∧ gvB (defScope s_R_stest) "BadText" = true := by decide +kernel
theorem cl_R_stest {Γ : Gm} {C : Addr} (dfn : DfM Γ C "single_test" "Reader.single_test" s_R_stest ["self"]) (T : Names Γ) {CE : Addr} {R : Bool → List Sy → Option Rs} {n : Nat} (hn : 3 ≤ n) (L : KR Γ C) (e_BadText : ErrK Γ 1 "BadText" CE 1 (fsD ["at"]) ["at"]) (m_taken : Mt Γ CX0 1 C "taken" (spTaken Γ.K C) []) (m_need : Mt Γ (CXN Γ) 3 C "need" (spNeedX Γ.K C CE) []) (m_word : Mt Γ (CXN Γ) 3 C "word" (spWordX Γ.K C CE) []) (m_look : Mt Γ (CXN Γ) n C "look" (spRd Γ.K C CE [.int 0] (R false)) []) (m_test : Mt Γ (CXN Γ) n C "test" (spRd Γ.K C CE [.int 0] (R true)) []) : Mt Γ (CXN Γ) (n + 1) C "single_test" (spRd Γ.K C CE [] (sgT R)) [] := by
  refine dfn.mtN sc_R_stest (fun vs H Q E h => ?_) (fun f cdv A outer s H vs Q E hg tk po h => ?_)
  · obtain ⟨A, i, rfl, _⟩ := h
    rfl
  obtain ⟨A, i, rfl, ht, nn, q⟩ := h
  have nd := sc_R_stest.nd
  obtain ⟨v0, v1, v2, v3, l1, l2, l3, g_BadText⟩ := nm_R_stest
  refine ⟨_, (pss_cons (ps_asg (pe_ix (WX.ok hg) (pe_at (WA.ok hg) (ps 0 v0)) (pe_at (WA.ok hg) (ps 0 v0)) (fun _ _ => rfl)) (pg_tK hg 2 rfl (pgs_c (pgn (i := 1) nd l1) (pgs_c (pgn (i := 2) nd l2) pgs_0))))
    (pss_cons (ps_ifB (pt_tr hg (pe_mw hg (ps 0 v0) (pa_cons pe_str pa_nil)))
    (pss_one (ps_ret (pe_tup (pa_cons pe_str pa_nil))))
    pss_nil)
    (pss_cons (ps_ifB (pt_cm (WO.ok hg) (ps 1 v1) (pe_tup (pa_cons pe_str (pa_cons pe_str (pa_cons pe_str (pa_cons pe_str pa_nil))))) (by with_unfolding_all rfl))
    (pss_one (ps_rz hg tk (pmkN e_BadText hg (by omega) g_BadText (pa_cons (ps 2 v2) pa_nil))))
    pss_nil)
    (pss_cons (ps_fldaug (ps 0 v0) pe_int in_add)
    (pss_cons (ps_ifB (pt_cm (k_ne hg) (ps 1 v1) pe_str (nomark _))
    (pss_one (ps_expr (pe_mwX hg tk (ps 0 v0) (pa_cons pe_str pa_nil))))
    pss_nil)
    (pss_cons (ps_ifB (pt_cm (k_eq hg) (ps 1 v1) pe_str (nomark _))
    (pss_one (pst (i := 3) nd l3 (pe_mwX hg tk (ps 0 v0) (pa_cons pe_int pa_nil))))
    (pss_one (ps_ifB (pt_cm (k_eq hg) (ps 1 v1) pe_str (nomark _))
    (pss_one (pst (i := 3) nd l3 (pe_tup (pa_cons pe_str (pa_cons (pe_mwX0 hg tk (ps 0 v0)) pa_nil)))))
    (pss_one (pst (i := 3) nd l3 (pe_tup (pa_cons (ps 1 v1) (pa_cons (pe_mwX hg tk (ps 0 v0) (pa_cons pe_int pa_nil)) pa_nil))))))))
    (pss_cons (ps_ifB (pt_cm (k_eq hg) (ps 1 v1) pe_str (nomark _))
    (pss_cons (ps_expr (pe_mwX hg tk (ps 0 v0) (pa_cons pe_str pa_nil)))
    (pss_one (pst (i := 3) nd l3 (pe_tup (pa_cons pe_str (pa_cons (pe_ix (WX.ok hg) (ps 3 v3) pe_int (fun _ _ => rfl)) (pa_cons (pe_mwX hg tk (ps 0 v0) (pa_cons pe_int pa_nil)) pa_nil)))))))
    pss_nil)
    (pss_cons (ps_expr (pe_mwX hg tk (ps 0 v0) (pa_cons pe_str pa_nil)))
    (pss_one (ps_ret (ps 3 v3))))))))))), ?_⟩
  refine st_start (σ := [some _, none, none, none]) rfl ?_
  walk_at "dn"
  unfold sgT at nn q
  obtain ⟨st, hst, hsq⟩ := ht.r.at_ ht.sym
  refine wa_sy L ht.r (wa_pl L ht.r (wx_l (SqL.of ht.r.ls) (v := .ref st) (at_nat hst) ?_))
  refine gt_of hsq rfl ?_
  walk_at "dn"
  refine ⟨1, C, A.a, A.dx, A.fs i, spTaken Γ.K C, [], E0, ⟨m_taken.ex⟩, by show 1 ≤ n; omega, rfl, ht.r.ins, by rfl, ?_⟩
  rw [ofs "always"]
  refine ⟨A, i, _, _, rfl, ht.r, ht.sym, fun e H1 f1 r1 => ?_, fun e => ?_⟩
  · have e : hdS (A.ss.drop i) = wd "always" := e
    rw [if_pos e] at q
    walk_at "di"
    refine ⟨szl (by simp only [List.length_cons, List.length_nil]; omega), fun T hT => ?_⟩
    have s2 := Same.mk (o := .tup [.str (Str.ofString "always")]) hT
    rw [← ht.tl] at q
    exact q T (i + 1) _ (f1.trans (Fr.of s2)) ((ht.pass e (by decide +kernel) r1).same s2) rfl (SqT.of upd_same)
  have e : ¬ hdS (A.ss.drop i) = wd "always" := e
  rw [if_neg e] at nn q
  walk_at "di"
  obtain ⟨ws, hws⟩ : ∃ ws, hdS (A.ss.drop i) = ws := ⟨_, rfl⟩
  rw [hws] at nn q ⊢
  refine ⟨szl (by simp only [List.length_cons, List.length_nil]; omega), fun T0 hT0 => ?_⟩
  have s0 := Same.mk (o := .tup [.str (Str.ofString "("), .str (Str.ofString "marked"), .str (Str.ofString "found"), .str (Str.ofString "same")]) hT0
  refine wo_niS (xs := [Str.ofString "(", Str.ofString "marked", Str.ofString "found", Str.ofString "same"]) (.inr (SqT.of upd_same)) ?_
  have eB : decide (tx ws ∈ [Str.ofString "(", Str.ofString "marked", Str.ofString "found", Str.ofString "same"]) = decide (ws = wd "(" ∨ ws = wd "marked" ∨ ws = wd "found" ∨ ws = wd "same") := by
    refine decide_eq_decide.mpr ?_
    rw [ofs "(", ofs "marked", ofs "found", ofs "same"]
    simp only [List.mem_cons, List.not_mem_nil, or_false]
    exact or_congr ⟨tx_inj, congrArg tx⟩ (or_congr ⟨tx_inj, congrArg tx⟩ (or_congr ⟨tx_inj, congrArg tx⟩ ⟨tx_inj, congrArg tx⟩))
  rw [eB]
  by_cases hw : ws = wd "(" ∨ ws = wd "marked" ∨ ws = wd "found" ∨ ws = wd "same"
  case neg =>
    rw [if_neg (fun z => hw (.inl z)), if_neg (fun z => hw (.inr (.inl z))), if_neg (fun z => hw (.inr (.inr (.inl z)))), if_neg (fun z => hw (.inr (.inr (.inr z))))] at q
    refine br_nf hw ?_
    exact ⟨rfl, fun d hd => q d _ ((Fr.of s0).trans (Fr.new hd)) upd_same⟩
  refine br_nt hw ?_
  have ht0 := ht.same s0
  dsimp only [L2.sFldAug]
  walk_at "dn"
  refine ⟨A.a, C, A.dx, A.fs i, .int i, rfl, ht0.r.ins, L.k.cls, L.n2, by rfl, i, 1, rfl, rfl, A.dx, A.fs i, ht0.r.ins, by show 3 < 1000; omega, ?_⟩
  rw [fld_go]
  have r1 := ht0.next (by rw [hws]; rcases hw with rfl | rfl | rfl | rfl <;> decide +kernel) ht0.r.go
  have f1 : Fr [A.a] H _ := (Fr.of s0).trans (Fr.upd (o := .ins C A.dx (A.fs (i + 1))) (.head _))
  generalize upd (upd H T0 _) A.a _ = H1 at r1 f1 ⊢
  clear s0 ht0 hT0
  rw [← ht.tl] at nn q
  have hcm : ∀ (u : List Nat) (s : String), u = wd s → tx u = Str.ofString s := fun u s e => by rw [e, ofs]
  -- a bracket, a test in it
  by_cases h1 : ws = wd "("
  · rw [if_pos h1] at nn q
    rw [hcm _ _ h1]
    refine br_nt rfl (br_t rfl ?_)
    refine ⟨n, C, A.a, A.dx, A.fs (i + 1), _, [], ⟨m_test.ex⟩, by show n ≤ n; omega, rfl, r1.r.ins, by rfl, A, i + 1, rfl, r1, ?_⟩
    refine RsP.bind q nn f1 fun t2 l2 p2 j2 H2 _ nn2 f2 r2 e2 t2' q2 => ?_
    rw [← e2] at nn2 q2
    refine br_f (by decide +kernel) ?_
    refine ⟨3, C, A.a, A.dx, A.fs j2, _, [], ⟨m_need.ex⟩, by show 3 ≤ n; omega, rfl, r2.r.ins, by rfl, ?_⟩
    rw [ofs ")"]
    refine needs q2 nn2 (by decide +kernel) (f1.trans f2) r2 fun nn3 q3 H3 f3 r3 => ?_
    walk_at "di"
    exact q3 p2 (j2 + 1) H3 ((f1.trans f2).trans f3) r3 rfl (t2'.frA r2 f3)
  rw [if_neg h1] at nn q
  have n1 : ¬ tx ws = Str.ofString "(" := fun z => h1 (tx_inj (z.trans (ofs "(")))
  refine br_nf n1 ?_
  refine ⟨3, C, A.a, A.dx, A.fs (i + 1), _, [], ⟨m_need.ex⟩, by show 3 ≤ n; omega, rfl, r1.r.ins, by rfl, ?_⟩
  rw [show [V.ref A.a, V.str (Str.ofString "(")] = [V.ref A.a, V.str (tx (wd "("))] from by rw [← ofs]]
  by_cases h2 : ws = wd "marked"
  · rw [if_pos h2] at nn q
    refine needs q nn (by decide +kernel) f1 r1 fun nn3 q3 H3 f3 r3 => ?_
    rw [hcm _ _ h2]
    refine br_f (by decide +kernel) (br_t rfl ?_)
    refine ⟨3, C, A.a, A.dx, A.fs (i + 1 + 1), _, [], ⟨m_word.ex⟩, by show 3 ≤ n; omega, rfl, r3.r.ins, by rfl, ?_⟩
    refine ⟨A, i + 1 + 1, rfl, r3, fun e H4 f4 r4 => ?_, fun e d H4 f4 h4 => ?_⟩
    · rw [if_pos e, ← r3.tl] at nn3 q3
      refine ⟨szl (by simp only [List.length_cons, List.length_nil]; omega), fun T hT => ?_⟩
      have s5 := Same.mk (o := .tup [.str (Str.ofString "marked"), .str (tx (hdS (A.ss.drop (i + 1 + 1))))]) hT
      have r5 := r4.same s5
      refine br_f (by decide +kernel) ?_
      refine ⟨3, C, A.a, A.dx, A.fs (i + 1 + 1 + 1), _, [], ⟨m_need.ex⟩, by show 3 ≤ n; omega, rfl, r5.r.ins, by rfl, ?_⟩
      rw [ofs ")"]
      have f5 := ((f1.trans f3).trans f4).trans (Fr.of s5)
      refine needs q3 nn3 (by decide +kernel) f5 r5 fun nn6 q6 H6 f6 r6 => ?_
      walk_at "di"
      refine q6 T _ H6 (f5.trans f6) r6 rfl ?_
      exact TrP.frA (t := .mk (tx (hdS (A.ss.drop (i + 1 + 1))))) (SqT.of upd_same) r5 f6
    · rw [if_neg (by rw [e]; decide)] at q3
      exact q3 d H4 ((f1.trans f3).trans f4) h4
  rw [if_neg h2] at nn q
  have n2 : ¬ tx ws = Str.ofString "marked" := fun z => h2 (tx_inj (z.trans (ofs "marked")))
  by_cases h3 : ws = wd "found"
  · rw [if_pos h3] at nn q
    refine needs q nn (by decide +kernel) f1 r1 fun nn3 q3 H3 f3 r3 => ?_
    refine br_f n1 (br_f n2 ?_)
    refine ⟨n, C, A.a, A.dx, A.fs (i + 1 + 1), _, [], ⟨m_look.ex⟩, by show n ≤ n; omega, rfl, r3.r.ins, by rfl, A, i + 1 + 1, rfl, r3, ?_⟩
    refine RsP.bind q3 nn3 (f1.trans f3) fun t4 l4 p4 j4 H4 _ nn4 f4 r4 e4 t4' q4 => ?_
    rw [← e4] at nn4 q4
    refine ⟨szl (by simp only [List.length_cons, List.length_nil]; omega), fun T hT => ?_⟩
    rw [hcm _ _ h3]
    have s5 := Same.mk (o := .tup [.str (Str.ofString "found"), .ref p4]) hT
    have r5 := r4.same s5
    refine br_f (by decide +kernel) ?_
    refine ⟨3, C, A.a, A.dx, A.fs j4, _, [], ⟨m_need.ex⟩, by show 3 ≤ n; omega, rfl, r5.r.ins, by rfl, ?_⟩
    rw [ofs ")"]
    have f5 := ((f1.trans f3).trans f4).trans (Fr.of s5)
    refine needs q4 nn4 (by decide +kernel) f5 r5 fun nn6 q6 H6 f6 r6 => ?_
    walk_at "di"
    refine q6 T _ H6 (f5.trans f6) r6 rfl ?_
    exact TrP.frA (t := .one "found" t4) ⟨p4, SqT.of upd_same, t4'.same s5⟩ r5 f6
  rw [if_neg h3] at nn q
  have h4 : ws = wd "same" := by
    rcases hw with h | h | h | h
    · exact absurd h h1
    · exact absurd h h2
    · exact absurd h h3
    · exact h
  rw [if_pos h4] at nn q
  refine needs q nn (by decide +kernel) f1 r1 fun nn3 q3 H3 f3 r3 => ?_
  refine br_f n1 (br_f n2 ?_)
  refine ⟨n, C, A.a, A.dx, A.fs (i + 1 + 1), _, [], ⟨m_look.ex⟩, by show n ≤ n; omega, rfl, r3.r.ins, by rfl, A, i + 1 + 1, rfl, r3, ?_⟩
  refine RsP.bind q3 nn3 (f1.trans f3) fun t4 l4 p4 j4 H4 _ nn4 f4 r4 e4 t4' q4 => ?_
  rw [← e4] at nn4 q4
  refine ⟨szl (by simp only [List.length_cons, List.length_nil]; omega), fun T hT => ?_⟩
  have s5 := Same.mk (o := .tup [.str (tx ws), .ref p4]) hT
  have r5 := r4.same s5
  refine br_t (hcm _ _ h4) ?_
  refine ⟨3, C, A.a, A.dx, A.fs j4, _, [], ⟨m_need.ex⟩, by show 3 ≤ n; omega, rfl, r5.r.ins, by rfl, ?_⟩
  rw [ofs ","]
  have f5 := ((f1.trans f3).trans f4).trans (Fr.of s5)
  refine needs q4 nn4 (by decide +kernel) f5 r5 fun nn6 q6 H6 f6 r6 => ?_
  have hT6 : SqT Γ.K H6 T [.str (tx ws), .ref p4] := .inl (.inl (f6 _ _ (fun z => by have := r5.r.ins; rw [← List.mem_singleton.mp z, upd_same] at this; cases this) upd_same))
  have t6 : TrP Γ.K H6 t4 p4 := (t4'.same s5).frA r5 f6
  refine wx_t hT6 (v := .ref p4) (atG (j := 1) rfl rfl) ?_
  refine ⟨n, C, A.a, A.dx, A.fs (j4 + 1), _, [], ⟨m_look.ex⟩, by show n ≤ n; omega, rfl, r6.r.ins, by rfl, A, j4 + 1, rfl, r6, ?_⟩
  have f56 := f5.trans f6
  refine RsP.bind q6 nn6 f56 fun t7 l7 p7 j7 H7 _ nn7 f7 r7 e7 t7' q7 => ?_
  rw [← e7] at nn7 q7
  refine ⟨szl (by simp only [List.length_cons, List.length_nil]; omega), fun T2 hT2 => ?_⟩
  have s8 := Same.mk (o := .tup [.str (Str.ofString "same"), .ref p4, .ref p7]) hT2
  have r8 := r7.same s8
  refine ⟨3, C, A.a, A.dx, A.fs j7, _, [], ⟨m_need.ex⟩, by show 3 ≤ n; omega, rfl, r8.r.ins, by rfl, ?_⟩
  rw [ofs ")"]
  have f8 := (f56.trans f7).trans (Fr.of s8)
  refine needs q7 nn7 (by decide +kernel) f8 r8 fun nn9 q9 H9 f9 r9 => ?_
  walk_at "di"
  refine q9 T2 _ H9 (f8.trans f9) r9 rfl ?_
  exact TrP.frA (t := .two "same" t4 t7) ⟨p4, p7, SqT.of upd_same, (t6.frA r6 f7).same s8, t7'.same s8⟩ r8 f9
def spText (K : PySem.W.Frag) (C : Addr) (asks : Bool) (d : Nat) : Sp := fun vs H Q _ => ∃ (a : Addr) (t : Tr) (ks ms : List Str), vs = [.ref a] ∧ LkP K H C t a ∧ t.wf ks ms asks ∧ (∀ k ∈ ks, Nm k) ∧ (∀ k ∈ ms, Nm k) ∧ t.dep ≤ d ∧ (shwB t asks).length < 50000 ∧ ∀ H', Same H H' → Q (.str (tx (shwB t asks))) H'
def spRInit (K : PySem.W.Frag) (C : Addr) : Sp := fun vs H Q _ => ∃ (x dx : Addr) (cs : List Nat), vs = [.ref x, .str (tx cs)] ∧ H x = some (.ins C dx []) ∧ cs.length < 100000 ∧ ∀ (A : RAd) H', A.a = x → A.ss = lexT cs → A.n = cs.length → Fr [x] H H' → RdP K C A 0 H' → Q .non H'
abbrev s_R_init : Stmt := inClass (topS 30) 0
abbrev n_R_init : List Str := ["self", "text"]
theorem sc_R_init : FnScope n_R_init ["self", "text"] (defScope s_R_init) := ⟨rfl, rfl, rfl, by decide +kernel, rfl, by decide +kernel, by decide +kernel⟩
theorem nm_R_init : nvB n_R_init (defScope s_R_init) 0 "self" = true ∧ nvB n_R_init (defScope s_R_init) 1 "text" = true ∧ gvB (defScope s_R_init) "len" = true ∧ gvB (defScope s_R_init) "symbols_of" = true := by decide +kernel
theorem cl_R_init {Γ : Gm} {C : Addr} (dfn : DfM Γ C "__init__" "Reader.__init__" s_R_init ["self", "text"]) (T : Names Γ) (L : KR Γ C) (c_symbols_of : Cl Γ CX0 4 "symbols_of" (spSyms Γ.K) []) : Mt Γ CX0 (5) C "__init__" (spRInit Γ.K C) [] := by
  refine dfn.mt sc_R_init (fun vs H Q E h => ?_) (fun f cdv A outer s H vs Q E hg h => ?_)
  · obtain ⟨x, dx, cs, rfl, _⟩ := h
    rfl
  obtain ⟨x, dx, cs, rfl, hx, hl, q⟩ := h
  have nd := sc_R_init.nd
  obtain ⟨v0, v1, g_len, g_symbols_of⟩ := nm_R_init
  refine ⟨_, (pss_cons (ps_fld (ps 0 v0) (pcl c_symbols_of hg (by omega) g_symbols_of pass0 (pa_cons (ps 1 v1) pa_nil)) rfl)
    (pss_cons (ps_fld (ps 0 v0) pe_int rfl)
    (pss_one (ps_fld (ps 0 v0) (pcb (k_len hg) g_len T.n_len bt_len (pa_cons (ps 1 v1) pa_nil)) rfl)))), ?_⟩
  refine st_start (σ := [some _, some _]) rfl ?_
  walk_at "dn"
  refine ⟨cs, rfl, hl, fun p ts H1 hn s1 hp hs => ?_⟩
  have hx1 := s1 _ _ hx
  refine ⟨x, C, dx, [], rfl, hx1, L.k.cls, L.n1, by decide, ?_⟩
  refine ⟨x, C, dx, _, rfl, upd_same, L.k.cls, L.n2, by show 1 < 1000; omega, szl (by rw [tx_len]; omega), ?_⟩
  refine ⟨x, C, dx, _, rfl, upd_same, L.k.cls, L.n3, by show 2 < 1000; omega, ?_⟩
  have f1 : Fr [x] H1 _ := Fr.upd (o := .ins C dx (putF (Str.ofString "symbols") (V.ref p) [])) (.head _)
  have f2 := f1.trans (Fr.upd (o := .ins C dx (putF (Str.ofString "place") (V.int 0) (putF (Str.ofString "symbols") (V.ref p) []))) (.head _))
  have f3 := f2.trans (Fr.upd (o := .ins C dx (putF (Str.ofString "last") (V.int ((tx cs).length : Nat)) (putF (Str.ofString "place") (V.int 0) (putF (Str.ofString "symbols") (V.ref p) [])))) (.head _))
  have np : p ≠ x := fun e => by rw [e, hx1] at hp; cases hp
  refine q ⟨x, dx, p, ts, lexT cs, cs.length⟩ _ rfl rfl rfl ((Fr.of s1).trans f3) ⟨?_, ?_, hs.len, fun i t e a b => sqt_fr1 (hs.at_ i t e a b) f3 hx1⟩
  · rw [upd_same, tx_len]
    rfl
  · rw [upd_ne np, upd_ne np, upd_ne np]
    exact hp
theorem symA_9 (cs : List Nat) : (symA cs).length ≤ 9 := by
  cases cs with
  | nil => exact Nat.zero_le _
  | cons c r =>
    rw [symA_c]
    have hf : (if c = 43 ∨ c = 45 then 1 else 0) ≤ 1 := by split <;> omega
    generalize (if c = 43 ∨ c = 45 then 1 else 0) = f at hf
    split
    · simp
    split
    · simp
    split
    · rw [List.length_take]; omega
    · exact Nat.zero_le _
theorem lexA_facts : ∀ (f at_ : Nat) (cs : List Nat), (∀ s ∈ lexA f at_ cs, s.1.length ≤ 9) ∧ (∃ e, (lexA f at_ cs).getLast? = some ([], e)) ∧ 0 < (lexA f at_ cs).length ∧ (lexA f at_ cs).length ≤ f + 1
  | 0, at_, cs => by
    unfold lexA
    exact ⟨by simp, ⟨at_, rfl⟩, Nat.one_pos, by simp⟩
  | f + 1, at_, [] => by
    unfold lexA
    exact ⟨by simp, ⟨at_, rfl⟩, Nat.one_pos, by simp⟩
  | f + 1, at_, c :: r => by
    unfold lexA
    split
    · obtain ⟨h1, h2, h3, h4⟩ := lexA_facts f (at_ + 1) r
      exact ⟨h1, h2, h3, by omega⟩
    split
    · exact ⟨by simp, ⟨at_, rfl⟩, Nat.one_pos, by simp⟩
    · obtain ⟨h1, ⟨e, h2⟩, h3, h4⟩ := lexA_facts f (at_ + (symA (c :: r)).length) ((c :: r).drop (symA (c :: r)).length)
      refine ⟨fun s hs => ?_, ⟨e, ?_⟩, by simp, by simp only [List.length_cons]; omega⟩
      · rcases List.mem_cons.mp hs with rfl | hs
        · exact symA_9 (c :: r)
        · exact h1 s hs
      · rw [List.getLast?_cons, h2]
        rfl
theorem rdq_init {K : PySem.W.Frag} {C : Addr} {A : RAd} {cs : List Nat} {H : Hp} (h : RdP K C A 0 H) (e : A.ss = lexT cs) (hl : cs.length < 70000) : RdQ K C A 0 H := by
  obtain ⟨h1, h2, h3, h4⟩ := lexA_facts (cs.length + 1) 0 cs
  refine ⟨h, by rw [e]; exact h3, by rw [e]; exact h2, by rw [e]; exact h1, ?_⟩
  rw [e]
  show (lexA (cs.length + 1) 0 cs).length < 80000
  omega
/-- what is asked of look_of, test_of -/
def RtP (K : PySem.W.Frag) (CL CE : Addr) (r : Option Rs) (H : Hp) (Q : VK) (E : XK) : Prop := match r with
  | none => False
  | some (.ok t _) => ∀ a H', Same H H' → LkP K H' CL t a → Q (.ref a) H'
  | some (.bad a) => ∀ d H', Same H H' → H' d = some (.xd (fsD ["at"] [.int a])) → E (.ref CE) (some d) H'
def spReadT (K : PySem.W.Frag) (CL CE : Addr) (o : Nat) (asks : Bool) : Sp := fun vs H Q E => ∃ cs : List Nat, vs = [.str (tx cs)] ∧ cs.length < 70000 ∧ RtP K CL CE (readT o asks cs) H Q E
/-- the reader is new -/
theorem fr_new {H H0 H1 H' : Hp} {x : Addr} (hx : H x = none) (s : Same H H1) (f : Fr [x] H1 H') : Same H H' := fun a o e => f a o (fun z => by rw [List.mem_singleton.mp z, hx] at e; cases e) (s a o e)
abbrev s_lookof : Stmt := topS 31
abbrev n_lookof : List Str := ["text", "reader"]
theorem sc_lookof : FnScope n_lookof ["text"] (defScope s_lookof) := ⟨rfl, rfl, rfl, by decide +kernel, rfl, by decide +kernel, by decide +kernel⟩
theorem nm_lookof : nvB n_lookof (defScope s_lookof) 0 "text" = true ∧ nvB n_lookof (defScope s_lookof) 1 "reader" = true ∧ lvB n_lookof (defScope s_lookof) 1 "reader" = true ∧ gvB (defScope s_lookof) "Look" = true ∧ gvB (defScope s_lookof) "Reader" = true := by decide +kernel
theorem cl_lookof {Γ : Gm} {f : Addr} {fd : FuncData} (dfn : L2.Fun Γ.K "look_of" "look_of" s_lookof f fd) (T : Names Γ) {CL CE C : Addr} {o m : Nat} (hm : 6 ≤ m) (L : KR Γ C) (k_Reader : Mkr Γ CX0 5 "Reader" C (spRInit Γ.K C) []) (k_Look : Mkr Γ CX0 1 "Look" CL (spInit CL) []) (m_look : Mt Γ (CXN Γ) m C "look" (spRd Γ.K C CE [.int 0] (rd o false)) []) (m_ended : Mt Γ (CXN Γ) 3 C "ended" (spEndedX Γ.K C CE) []) : FnOk Γ.P Γ.w Γ.K Γ.mg Γ.base (CXN Γ) (m + 1) f fd ["text"] (spReadT Γ.K CL CE o false) := by
  refine fun_okN dfn sc_lookof (fun vs H Q E h => ?_) (fun f cdv A outer s H vs Q E hg tk po h => ?_)
  · obtain ⟨cs, rfl, _⟩ := h
    rfl
  obtain ⟨cs, rfl, hl, q⟩ := h
  have nd := sc_lookof.nd
  obtain ⟨v0, v1, l1, g_Look, g_Reader⟩ := nm_lookof
  refine ⟨_, (pss_cons (pst (i := 1) nd l1 (pmk k_Reader hg (by omega) g_Reader pass0 (pa_cons (ps 0 v0) pa_nil)))
    (pss_one (ps_ret (pmk k_Look hg (by omega) g_Look pass0 (pa_cons (pe_mwX hg tk (ps 1 v1) (pa_cons (pe_mwX hg tk (ps 1 v1) (pa_cons pe_int pa_nil)) pa_nil)) pa_nil))))), ?_⟩
  refine st_start (σ := [some _, none]) rfl ?_
  walk_at "dn"
  intro x dx hx hdx hne
  refine ⟨x, dx, cs, rfl, upd_same, by omega, fun A H1 ea es en f1 r1 => ⟨rfl, ?_⟩⟩
  subst ea
  have s0 : Same H (upd (upd H dx (.own A.a)) A.a (.ins C dx [])) := fun a u e => by rw [upd_ne (ne_of_none e hx), upd_ne (ne_of_none e hdx)]; exact e
  have r1 := rdq_init r1 es hl
  have hfx : ∀ {H' : Hp}, Fr [A.a] H1 H' → Same H H' := fun f => fr_new (H0 := H) hx s0 (f1.trans f)
  refine ⟨3, C, A.a, A.dx, A.fs 0, _, [], ⟨m_ended.ex⟩, by show 3 ≤ m; omega, rfl, r1.r.ins, by rfl, ?_⟩
  refine ⟨m, C, A.a, A.dx, A.fs 0, _, [], ⟨m_look.ex⟩, by show m ≤ m; omega, rfl, r1.r.ins, by rfl, A, 0, rfl, r1, ?_⟩
  rw [List.drop_zero, es]
  unfold readT at q
  cases hr : rd o false (lexT cs) with
  | none => rw [hr] at q; exact q.elim
  | some r =>
  rw [hr] at q
  refine ⟨fun z => (by cases z), ?_⟩
  cases r with
  | bad a => exact fun d H' f h => q d H' (hfx f) h
  | ok t l =>
    intro p j H2 f2 r2 e2 ht2
    refine ⟨A, j, .ref p, rfl, r2, fun h => ?_, fun h d H' f hd => ?_⟩
    · rw [e2, en] at h
      have q : RtP Γ.K CL CE (if hdP l < cs.length then some (.bad (hdP l)) else some (.ok t l)) H Q E := q
      rw [if_neg (by omega)] at q
      refine made (v := .ref p) (Q := Q) (E := E) fun c dc H3 s3 h3 => q c H3 ((hfx f2).trans s3) ⟨dc, p, h3, ht2.same s3⟩
    · rw [e2, en] at h
      have q : RtP Γ.K CL CE (if hdP l < cs.length then some (.bad (hdP l)) else some (.ok t l)) H Q E := q
      rw [if_pos h] at q
      rw [e2] at hd
      exact q d H' (hfx (f2.trans f)) hd
abbrev s_testof : Stmt := topS 32
abbrev n_testof : List Str := ["text", "reader"]
theorem sc_testof : FnScope n_testof ["text"] (defScope s_testof) := ⟨rfl, rfl, rfl, by decide +kernel, rfl, by decide +kernel, by decide +kernel⟩
theorem nm_testof : nvB n_testof (defScope s_testof) 0 "text" = true ∧ nvB n_testof (defScope s_testof) 1 "reader" = true ∧ lvB n_testof (defScope s_testof) 1 "reader" = true ∧ gvB (defScope s_testof) "Reader" = true ∧ gvB (defScope s_testof) "Test" = true := by decide +kernel
theorem cl_testof {Γ : Gm} {f : Addr} {fd : FuncData} (dfn : L2.Fun Γ.K "test_of" "test_of" s_testof f fd) (T : Names Γ) {CL CE C : Addr} {o m : Nat} (hm : 6 ≤ m) (L : KR Γ C) (k_Reader : Mkr Γ CX0 5 "Reader" C (spRInit Γ.K C) []) (k_Test : Mkr Γ CX0 1 "Test" CL (spInit CL) []) (m_test : Mt Γ (CXN Γ) m C "test" (spRd Γ.K C CE [.int 0] (rd o true)) []) (m_ended : Mt Γ (CXN Γ) 3 C "ended" (spEndedX Γ.K C CE) []) : FnOk Γ.P Γ.w Γ.K Γ.mg Γ.base (CXN Γ) (m + 1) f fd ["text"] (spReadT Γ.K CL CE o true) := by
  refine fun_okN dfn sc_testof (fun vs H Q E h => ?_) (fun f cdv A outer s H vs Q E hg tk po h => ?_)
  · obtain ⟨cs, rfl, _⟩ := h
    rfl
  obtain ⟨cs, rfl, hl, q⟩ := h
  have nd := sc_testof.nd
  obtain ⟨v0, v1, l1, g_Reader, g_Test⟩ := nm_testof
  refine ⟨_, (pss_cons (pst (i := 1) nd l1 (pmk k_Reader hg (by omega) g_Reader pass0 (pa_cons (ps 0 v0) pa_nil)))
    (pss_one (ps_ret (pmk k_Test hg (by omega) g_Test pass0 (pa_cons (pe_mwX hg tk (ps 1 v1) (pa_cons (pe_mwX hg tk (ps 1 v1) (pa_cons pe_int pa_nil)) pa_nil)) pa_nil))))), ?_⟩
  refine st_start (σ := [some _, none]) rfl ?_
  walk_at "dn"
  intro x dx hx hdx hne
  refine ⟨x, dx, cs, rfl, upd_same, by omega, fun A H1 ea es en f1 r1 => ⟨rfl, ?_⟩⟩
  subst ea
  have s0 : Same H (upd (upd H dx (.own A.a)) A.a (.ins C dx [])) := fun a u e => by rw [upd_ne (ne_of_none e hx), upd_ne (ne_of_none e hdx)]; exact e
  have r1 := rdq_init r1 es hl
  have hfx : ∀ {H' : Hp}, Fr [A.a] H1 H' → Same H H' := fun f => fr_new (H0 := H) hx s0 (f1.trans f)
  refine ⟨3, C, A.a, A.dx, A.fs 0, _, [], ⟨m_ended.ex⟩, by show 3 ≤ m; omega, rfl, r1.r.ins, by rfl, ?_⟩
  refine ⟨m, C, A.a, A.dx, A.fs 0, _, [], ⟨m_test.ex⟩, by show m ≤ m; omega, rfl, r1.r.ins, by rfl, A, 0, rfl, r1, ?_⟩
  rw [List.drop_zero, es]
  unfold readT at q
  cases hr : rd o true (lexT cs) with
  | none => rw [hr] at q; exact q.elim
  | some r =>
  rw [hr] at q
  refine ⟨fun z => (by cases z), ?_⟩
  cases r with
  | bad a => exact fun d H' f h => q d H' (hfx f) h
  | ok t l =>
    intro p j H2 f2 r2 e2 ht2
    refine ⟨A, j, .ref p, rfl, r2, fun h => ?_, fun h d H' f hd => ?_⟩
    · rw [e2, en] at h
      have q : RtP Γ.K CL CE (if hdP l < cs.length then some (.bad (hdP l)) else some (.ok t l)) H Q E := q
      rw [if_neg (by omega)] at q
      refine made (v := .ref p) (Q := Q) (E := E) fun c dc H3 s3 h3 => q c H3 ((hfx f2).trans s3) ⟨dc, p, h3, ht2.same s3⟩
    · rw [e2, en] at h
      have q : RtP Γ.K CL CE (if hdP l < cs.length then some (.bad (hdP l)) else some (.ok t l)) H Q E := q
      rw [if_pos h] at q
      rw [e2] at hd
      exact q d H' (hfx (f2.trans f)) hd
/-- draws end in a tree at p -/
def Ends5 (K : PySem.W.Frag) (b : Addr) (n : Nat) (H : Hp) (Q : VK) (G : Tr → Prop) : Prop := ∀ p t H', Fr [b] H H' → Box b n H' → TrP K H' t p → G t → Q (.ref p) H'
/-- kinds or marks: a list of the law's -/
def NmL (H : Hp) (b l : Addr) (ks : List Str) : Prop := H l = some (.lst (ks.map V.str)) ∧ l ≠ b ∧ ks.length ≤ 26 ∧ ∀ k ∈ ks, Nm k
theorem told_st (w k : Str) (d : Int) : ((Tr.st k d).told w).length ≤ 1 := by
  show (if Str.ofString "step" = w then [k] else []).length ≤ 1
  split <;> simp
theorem told_mk (w k : Str) : ((Tr.mk k).told w).length ≤ 1 := by
  show (if Str.ofString "marked" = w then [k] else []).length ≤ 1
  split <;> simp
theorem told_st0 (k : Str) (d : Int) : (Tr.st k d).told "marked" = [] := if_neg (by decide +kernel)
theorem NmL.fr {H H' : Hp} {b l : Addr} {ks : List Str} (h : NmL H b l ks) (f : Fr [b] H H') : NmL H' b l ks := ⟨f _ _ (fun z => h.2.1 (List.mem_singleton.mp z)) h.1, h.2⟩
def spLeaf (K : PySem.W.Frag) : Sp := fun vs H Q _ => ∃ (b kl : Addr) (sh : Bool) (ks : List Str) (n : Nat), vs = [.ref b, .ref kl, .bl sh] ∧ Box b (n + 5) H ∧ NmL H b kl ks ∧
  Ends5 K b n H Q fun t => t.walk ∧ (sh = true → t.dep = 1) ∧ ∀ ms, Gd ks ms false 1 t

def spLook (K : PySem.W.Frag) (d : Nat) : Sp := fun vs H Q _ => ∃ (b kl ml : Addr) (ks ms : List Str) (m n : Nat) (sh : Bool), vs = [.ref b, .int m, .ref kl, .ref ml, .bl sh] ∧ Box b (n + 10 * m - 5) H ∧ NmL H b kl ks ∧ NmL H b ml ms ∧ 1 ≤ m ∧ m ≤ d ∧ m < 1000 ∧
  Ends5 K b n H Q fun t => Gd ks ms false m t ∧ (m = 1 → t.walk ∧ (sh = true → t.dep = 1))
def spTest (K : PySem.W.Frag) (d : Nat) : Sp := fun vs H Q _ => ∃ (b kl ml : Addr) (ks ms : List Str) (m n : Nat) (sh : Bool), vs = [.ref b, .int m, .ref kl, .ref ml, .bl sh] ∧ Box b (n + 10 * m - 3) H ∧ NmL H b kl ks ∧ NmL H b ml ms ∧ 1 ≤ m ∧ m ≤ d ∧ m < 1000 ∧
  Ends5 K b n H Q fun t => Gd ks ms true m t
abbrev s_leaf : Stmt := topS 41
abbrev n_leaf : List Str := ["_law_box_here", "_law_kinds_so", "_law_short", "_law_kind", "_law_once"]
theorem sc_leaf : FnScope n_leaf ["_law_box_here", "_law_kinds_so", "_law_short"] (defScope s_leaf) := ⟨rfl, rfl, rfl, by decide +kernel, rfl, by decide +kernel, by decide +kernel⟩
theorem nm_leaf : nvB n_leaf (defScope s_leaf) 0 "_law_box_here" = true ∧ nvB n_leaf (defScope s_leaf) 1 "_law_kinds_so" = true ∧ nvB n_leaf (defScope s_leaf) 2 "_law_short" = true ∧ nvB n_leaf (defScope s_leaf) 3 "_law_kind" = true ∧ nvB n_leaf (defScope s_leaf) 4 "_law_once" = true ∧ lvB n_leaf (defScope s_leaf) 3 "_law_kind" = true ∧ lvB n_leaf (defScope s_leaf) 4 "_law_once" = true ∧ gvB (defScope s_leaf) "_law_of" = true ∧ gvB (defScope s_leaf) "_law_take" = true := by decide +kernel
theorem cl_leaf {Γ : Gm} (dfn : Dfn Γ "_law_leaf" s_leaf ["_law_box_here", "_law_kinds_so", "_law_short"]) (T : Names Γ) (c_law_take : Cl Γ CX0 1 "_law_take" spTake []) (c_law_of : Cl Γ CX0 2 "_law_of" (spOf Γ.K) []) : Cl Γ CX0 (3) "_law_leaf" (spLeaf Γ.K) [] := by
  refine dfn.cl sc_leaf (fun vs H Q E h => ?_) (fun f cdv A outer s H vs Q E hg h => ?_)
  · obtain ⟨b, kl, sh, ks, n, rfl, _⟩ := h
    rfl
  obtain ⟨b, kl, sh, ks, n, rfl, hb, hk, q⟩ := h
  have nd := sc_leaf.nd
  obtain ⟨v0, v1, v2, v3, v4, l3, l4, g__law_of, g__law_take⟩ := nm_leaf
  refine ⟨_, (C8.pss_cut (pst (i := 3) nd l3 (pcl c_law_take hg (by omega) g__law_take pass0 (pa_cons (ps 0 v0) (pa_cons pe_int pa_nil))))
    (pss_cons (ps_ifB (PW.pt (pw_orB (pt_cm (k_eq hg) (ps 3 v3) pe_int (nomark _)) (pw_or1 (pt_cm (k_eq hg) (ps 1 v1) (pe_lst pa_nil) (nomark _)))))
    (pss_one (ps_ret (pe_tup (pa_cons pe_str pa_nil))))
    pss_nil)
    (pss_cons (pst (i := 4) nd l4 (pe_tup (pa_cons pe_str (pa_cons (pcl c_law_of hg (by omega) g__law_of pass0 (pa_cons (ps 0 v0) (pa_cons (ps 1 v1) pa_nil))) (pa_cons (pcl c_law_of hg (by omega) g__law_of pass0 (pa_cons (ps 0 v0) (pa_cons (pe_lst (pa_cons pe_int (pa_cons pe_int (pa_cons (pe_un (k_neg hg) pe_int) pa_nil)))) pa_nil))) pa_nil)))))
    (pss_cons (ps_ifB (PW.pt (pw_orB (pt_tr hg (ps 2 v2)) (pw_or1 (pt_cm (k_lt hg) (ps 3 v3) pe_int (nomark _)))))
    (pss_one (ps_ret (ps 4 v4)))
    pss_nil)
    (pss_one (ps_ret (pe_tup (pa_cons pe_str (pa_cons (ps 4 v4) (pa_cons (pe_tup (pa_cons pe_str (pa_cons (pcl c_law_of hg (by omega) g__law_of pass0 (pa_cons (ps 0 v0) (pa_cons (ps 1 v1) pa_nil))) (pa_cons (pcl c_law_of hg (by omega) g__law_of pass0 (pa_cons (ps 0 v0) (pa_cons (pe_lst (pa_cons pe_int (pa_cons pe_int (pa_cons (pe_un (k_neg hg) pe_int) pa_nil)))) pa_nil))) pa_nil)))) pa_nil)))))))))), ?_⟩
  refine st_start (σ := [some _, some _, some _, none, none]) rfl ?_
  walk_at "dn"
  have okk : ∀ k ∈ ks, PyData.strOk k = true := fun k hk2 => Nm.ok (hk.2.2.2 k hk2)
  have hend : ∀ (H2 : Hp) (F : List (PF (E1 Γ))) (R R' : List (RS (E1 Γ))) (m : Nat), SS (E := E1 Γ) H [b] H2 F R → Pick R (boxR b (n + m)) R' (boxR b n) → [V.str (Str.ofString "here")].length ≤ sizeLine ∧ ∀ p, H2 p = none → Q (.ref p) (upd H2 p (.tup [.str (Str.ofString "here")])) := by
    intro H2 F R R' m s pk
    refine ⟨szl (by simp only [List.length_cons, List.length_nil]; omega), fun p hp => ?_⟩
    have s' := s.newT (xs := [.str (Str.ofString "here")]) hp
    exact q p (.z "here") _ s'.fr ((s'.box pk.mem).less (by omega)) (SqT.of upd_same) ⟨rfl, fun _ => rfl, fun ms => ⟨rfl, by decide, by decide, by decide, Nat.le_refl _, (show 0 + 5 ≤ 7 * 1 by decide)⟩⟩
  have pair : ∀ (H1 : Hp) (F : List (PF (E1 Γ))) (R R1 R2 : List (RS (E1 Γ))) (m : Nat) (K : Addr → Hp → V → V → Prop), ks ≠ [] → SS (E := E1 Γ) H [b] H1 F R → Pick R (boxR b (m + 2)) R1 (boxR b (m + 1)) → Pick R1 (boxR b (m + 1)) R2 (boxR b m) →
      (∀ p k d H' pl, k ∈ ks → (d = 1 ∨ d = -1) → H' p = none → SS (E := E1 Γ) H [b] (upd H' p (.tup [.str (Str.ofString "step"), .str k, .int d])) (tupF p [.str (Str.ofString "step"), .str k, .int d] :: F) (lstR pl [.int 1, .int 1, .int (-1)] :: R2) → K p H' (.str k) (.int d)) →
      spOf Γ.K [.ref b, .ref kl] H1 (fun x H1 => [V.int 1, V.int 1, V.int (-1)].length ≤ sizeLine ∧ ∀ p, H1 p = none → spOf Γ.K [.ref b, .ref p] (upd H1 p (.lst [.int 1, .int 1, .int (-1)])) (fun x_1 H1 => [V.str (Str.ofString "step"), x, x_1].length ≤ sizeLine ∧ ∀ p, H1 p = none → K p H1 x x_1) E0) E0 := by
    intro H1 F R R1 R2 m K hne s pk1 pk2 k
    have hkl : H1 kl = some (.lst (ks.map V.str)) := s.fr _ _ (fun z => hk.2.1 (List.mem_singleton.mp z)) hk.1
    have hpos : 0 < ks.length := List.length_pos_iff.mpr hne
    refine ⟨b, _, m + 1, rfl, s.box pk1.mem, .inl ⟨kl, _, rfl, hk.2.1, SqL.of hkl, by rw [List.length_map]; exact hpos, by rw [List.length_map]; have := hk.2.2.1; omega, fun v hv H3 f3 b3 => ?_⟩⟩
    obtain ⟨z, hz, rfl⟩ := List.mem_map.mp hv
    have s3 := s.draw pk1 f3 b3
    refine ⟨szl (by simp only [List.length_cons, List.length_nil]; omega), fun pl hpl => ?_⟩
    have s4 := s3.newC (o := .lst [.int 1, .int 1, .int (-1)]) hpl (fun z => z)
    have hne2 : pl ≠ b := fun e => by
      obtain ⟨xs, e2⟩ := b3.cell
      rw [e, e2] at hpl; cases hpl
    refine ⟨b, _, m, rfl, s4.box (.tail _ pk2.mem), .inl ⟨pl, _, rfl, hne2, SqL.of upd_same, by simp only [List.length_cons, List.length_nil]; omega, by simp only [List.length_cons, List.length_nil]; omega, fun v hv H5 f5 b5 => ?_⟩⟩
    have s5 := s4.draw (.next pk2) f5 b5
    refine ⟨szl (by simp only [List.length_cons, List.length_nil]; omega), fun p hp => ?_⟩
    obtain ⟨d, rfl, hd⟩ : ∃ d : Int, v = .int d ∧ (d = 1 ∨ d = -1) := by
      simp only [List.mem_cons, List.not_mem_nil, or_false] at hv
      rcases hv with rfl | rfl | rfl
      · exact ⟨1, rfl, .inl rfl⟩
      · exact ⟨1, rfl, .inl rfl⟩
      · exact ⟨-1, rfl, .inr rfl⟩
    exact k p z d H5 pl hz hd hp (s5.newT hp)
  refine ⟨fun σ' H1 => ∃ r : Int, σ' = [some (.ref b), some (.ref kl), some (.bl sh), some (.int r), none] ∧ SS (E := E1 Γ) H [b] H1 [] [boxR b (n + 4)], ⟨b, 8, n + 4, rfl, by omega, by omega, hb, fun r H1 r0 r1 f1 b1 => ⟨r, rfl, (SS.box1 (E := E1 Γ) hb).draw .here f1 b1⟩⟩, ?_⟩
  rintro σ' H1 ⟨r, rfl, s1⟩
  walk_at "di"
  refine br_d (fun _ => hend _ _ _ _ _ s1 .here) (fun _ => ⟨szl (by simp only [List.length_nil]; omega), fun pe hpe => ?_⟩)
  have s2 := s1.newC (o := .lst []) hpe (fun z => z)
  have hkl : upd H1 pe (.lst []) kl = some (.lst (ks.map V.str)) := s2.fr _ _ (fun z => hk.2.1 (List.mem_singleton.mp z)) hk.1
  refine wo_eqE (SqL.of hkl) (SqL.of upd_same) okk ?_
  walk_at "di"
  refine br_b (fun e => hend _ _ _ _ _ s2 (.next .here)) (fun e => ?_)
  have hne : ks ≠ [] := fun z => by rw [z] at e; cases e
  refine pair _ _ _ _ _ (n + 2) _ hne s2 (.next .here) (.next .here) fun p k d H' pl hk1 hd hp s => ?_
  walk_at "di"
  have end1 : sh = true ∨ sh = false → Q (.ref p) (upd H' p (.tup [.str (Str.ofString "step"), .str k, .int d])) := fun _ =>
    q p (.st k d) _ s.fr ((s.box (.tail _ (.tail _ (.head _)))).less (by omega)) (s.tup (.head _)) ⟨trivial, fun _ => rfl, fun ms => ⟨⟨hk1, hd⟩, by simp [Tr.dep], Nat.le_trans (told_st _ _ _) (by omega), told_st _ _ _, Nat.le_refl _, (show 0 + 5 ≤ 7 * 1 by decide)⟩⟩
  refine br_b (fun e => end1 (.inl e)) (fun e => br_d (fun _ => end1 (.inr e)) (fun _ => ?_))
  refine pair _ _ _ _ _ n _ hne s (.next (.next .here)) (.next (.next .here)) fun p2 k2 d2 H'' pl2 hk2 hd2 hp2 s' => ⟨szl (by simp only [List.length_cons, List.length_nil]; omega), fun p3 hp3 => ?_⟩
  have s6 := s'.newT (xs := [.str (Str.ofString "then"), .ref p, .ref p2]) hp3
  refine q p3 (.two "then" (.st k d) (.st k2 d2)) _ s6.fr (s6.box (.tail _ (.tail _ (.tail _ (.head _))))) ⟨p, p2, s6.tup (.head _), s6.tup (.tail _ (.tail _ (.head _))), s6.tup (.tail _ (.head _))⟩ ⟨⟨rfl, trivial, trivial⟩, (fun h => by rw [e] at h; cases h), fun ms => ⟨.inl ⟨.inl rfl, ⟨hk1, hd⟩, ⟨hk2, hd2⟩⟩, by simp [Tr.dep], ?_, ?_, Nat.le_refl _, (show 0 + 0 + 2 + 5 ≤ 7 * 1 by decide)⟩⟩
  · show ((Tr.st k d).told "step" ++ (Tr.st k2 d2).told "step").length ≤ 2 * 1
    rw [List.length_append]
    have := told_st "step" k d
    have := told_st "step" k2 d2
    omega
  · show ((Tr.st k d).told "marked" ++ (Tr.st k2 d2).told "marked").length ≤ 1
    rw [told_st0, told_st0]
    simp
abbrev s_look : Stmt := topS 42
abbrev n_look : List Str := ["_law_box_here", "_law_most", "_law_kinds_so", "_law_marks_so", "_law_short", "_law_front", "_law_word", "_law_mine"]
theorem sc_look : FnScope n_look ["_law_box_here", "_law_most", "_law_kinds_so", "_law_marks_so", "_law_short"] (defScope s_look) := ⟨rfl, rfl, rfl, by decide +kernel, rfl, by decide +kernel, by decide +kernel⟩
theorem nm_look : nvB n_look (defScope s_look) 0 "_law_box_here" = true ∧ nvB n_look (defScope s_look) 1 "_law_most" = true ∧ nvB n_look (defScope s_look) 2 "_law_kinds_so" = true ∧ nvB n_look (defScope s_look) 3 "_law_marks_so" = true ∧ nvB n_look (defScope s_look) 4 "_law_short" = true ∧ nvB n_look (defScope s_look) 5 "_law_front" = true ∧ nvB n_look (defScope s_look) 6 "_law_word" = true ∧ nvB n_look (defScope s_look) 7 "_law_mine" = true ∧ lvB n_look (defScope s_look) 5 "_law_front" = true ∧ lvB n_look (defScope s_look) 6 "_law_word" = true ∧ lvB n_look (defScope s_look) 7 "_law_mine" = true ∧ gvB (defScope s_look) "_law_leaf" = true ∧ gvB (defScope s_look) "_law_look" = true ∧ gvB (defScope s_look) "_law_of" = true ∧ gvB (defScope s_look) "_law_take" = true ∧ gvB (defScope s_look) "_law_test" = true := by decide +kernel
theorem cl_look {Γ : Gm} (dfn : Dfn Γ "_law_look" s_look ["_law_box_here", "_law_most", "_law_kinds_so", "_law_marks_so", "_law_short"]) (T : Names Γ) {d : Nat} (c_law_take : Cl Γ CX0 1 "_law_take" spTake []) (c_law_of : Cl Γ CX0 2 "_law_of" (spOf Γ.K) []) (c_law_leaf : Cl Γ CX0 3 "_law_leaf" (spLeaf Γ.K) []) (c_law_look : Cl Γ CX0 (2 * d + 3) "_law_look" (spLook Γ.K d) []) (c_law_test : Cl Γ CX0 (2 * d + 4) "_law_test" (spTest Γ.K d) []) : Cl Γ CX0 (2 * d + 5) "_law_look" (spLook Γ.K (d + 1)) [] := by
  refine dfn.cl sc_look (fun vs H Q E h => ?_) (fun f cdv A outer s H vs Q E hg h => ?_)
  · obtain ⟨b, kl, ml, ks, ms, m, n, sh, rfl, _⟩ := h
    rfl
  obtain ⟨b, kl, ml, ks, ms, m, n, sh, rfl, hb, hk, hm, h1, hd, hm40, q⟩ := h
  have nd := sc_look.nd
  obtain ⟨v0, v1, v2, v3, v4, v5, v6, v7, l5, l6, l7, g__law_leaf, g__law_look, g__law_of, g__law_take, g__law_test⟩ := nm_look
  refine ⟨_, (pss_cons (ps_ifB (pt_cm (k_lt hg) (ps 1 v1) pe_int (nomark _))
    (pss_one (ps_ret (pcl c_law_leaf hg (by omega) g__law_leaf pass0 (pa_cons (ps 0 v0) (pa_cons (ps 2 v2) (pa_cons (ps 4 v4) pa_nil))))))
    pss_nil)
    (C8.pss_cut (pst (i := 5) nd l5 (pe_op (k_add hg) pe_int (pcl c_law_take hg (by omega) g__law_take pass0 (pa_cons (ps 0 v0) (pa_cons (pe_op (k_sub hg) (ps 1 v1) pe_int) pa_nil)))))
    (C8.pss_cut (pst (i := 6) nd l6 (pcl c_law_of hg (by omega) g__law_of pass0 (pa_cons (ps 0 v0) (pa_cons (pe_lst (pa_cons pe_str (pa_cons pe_str (pa_cons pe_str (pa_cons pe_str (pa_cons pe_str pa_nil)))))) pa_nil))))
    (C8.pss_cut (pst (i := 7) nd l7 (pcl c_law_look hg (by omega) g__law_look pass0 (pa_cons (ps 0 v0) (pa_cons (ps 5 v5) (pa_cons (ps 2 v2) (pa_cons (ps 3 v3) (pa_cons (ps 4 v4) pa_nil)))))))
    (pss_cons (ps_ifB (pt_cm (k_eq hg) (ps 6 v6) pe_str (nomark _))
    (pss_one (ps_ret (pe_tup (pa_cons pe_str (pa_cons (ps 7 v7) (pa_cons (pcl c_law_test hg (by omega) g__law_test pass0 (pa_cons (ps 0 v0) (pa_cons (pe_op (k_sub hg) (ps 1 v1) (ps 5 v5)) (pa_cons (ps 2 v2) (pa_cons (ps 3 v3) (pa_cons (ps 4 v4) pa_nil)))))) pa_nil))))))
    pss_nil)
    (pss_one (ps_ret (pe_tup (pa_cons (ps 6 v6) (pa_cons (ps 7 v7) (pa_cons (pcl c_law_look hg (by omega) g__law_look pass0 (pa_cons (ps 0 v0) (pa_cons (pe_op (k_sub hg) (ps 1 v1) (ps 5 v5)) (pa_cons (ps 2 v2) (pa_cons (ps 3 v3) (pa_cons (ps 4 v4) pa_nil)))))) pa_nil))))))))))), ?_⟩
  refine st_start (σ := [some _, some _, some _, some _, some _, none, none, none]) rfl ?_
  walk_at "dn"
  refine br_d (fun h => ?_) (fun h => ?_)
  · obtain rfl : m = 1 := by omega
    exact ⟨b, kl, sh, ks, n, rfl, hb.less (by omega), hk, fun p t H' f b' hp ⟨w, s, g⟩ => q p t H' f b' hp ⟨g ms, fun _ => ⟨w, s⟩⟩⟩
  refine ⟨fun σ' H1 => ∃ fr : Nat, σ' = [some (.ref b), some (.int m), some (.ref kl), some (.ref ml), some (.bl sh), some (.int fr), none, none] ∧ 1 ≤ fr ∧ fr < m ∧ SS (E := E1 Γ) H [b] H1 [] [boxR b (n + 10 * m - 6)], ?_, ?_⟩
  · refine ⟨b, _, n + 10 * m - 6, rfl, by omega, by omega, hb.less (by omega), fun r H1 r0 r1 f1 b1 => ?_⟩
    walk_at "di"
    exact ⟨(1 + r).toNat, by rw [show (1 + r) = (((1 + r).toNat : Nat) : Int) from by omega]; rfl, by omega, by omega, (SS.box1 (E := E1 Γ) hb).draw (m := n + 10 * m - 5) .here f1 b1⟩
  rintro σ' H1 ⟨fr, rfl, f1, f2, s1⟩
  refine ⟨fun σ' H2 => ∃ (w : Str) (pl : Addr) (xs : List V), σ' = [some (.ref b), some (.int m), some (.ref kl), some (.ref ml), some (.bl sh), some (.int fr), some (.str w), none] ∧ (w = "then" ∨ w = "or" ∨ w = "and" ∨ w = "when") ∧ SS (E := E1 Γ) H [b] H2 [] [lstR pl xs, boxR b (n + 10 * m - 7)], ?_, ?_⟩
  · walk_at "di"
    refine ⟨szl (by simp only [List.length_cons, List.length_nil]; omega), fun pl hpl => ?_⟩
    have s2 := s1.newC (o := .lst [.str (Str.ofString "then"), .str (Str.ofString "or"), .str (Str.ofString "or"), .str (Str.ofString "and"), .str (Str.ofString "when")]) hpl (fun z => z)
    have hne2 : pl ≠ b := fun e => by
      obtain ⟨xs, e2⟩ := (s1.box (.head _)).cell
      rw [e, e2] at hpl; cases hpl
    refine ⟨b, _, n + 10 * m - 7, rfl, (s2.box (.tail _ (.head _))).less (by omega), .inl ⟨pl, _, rfl, hne2, SqL.of upd_same, by simp only [List.length_cons, List.length_nil]; omega, by simp only [List.length_cons, List.length_nil]; omega, fun v hv H5 f5 b5 => ?_⟩⟩
    simp only [List.mem_cons, List.not_mem_nil, or_false] at hv
    have s5 := s2.draw (.next .here) f5 b5
    rcases hv with rfl | rfl | rfl | rfl | rfl
    · exact ⟨_, pl, _, rfl, .inl rfl, s5⟩
    · exact ⟨_, pl, _, rfl, .inr (.inl rfl), s5⟩
    · exact ⟨_, pl, _, rfl, .inr (.inl rfl), s5⟩
    · exact ⟨_, pl, _, rfl, .inr (.inr (.inl rfl)), s5⟩
    · exact ⟨_, pl, _, rfl, .inr (.inr (.inr rfl)), s5⟩
  rintro σ' H2 ⟨w, pl, xs, rfl, hw, s2⟩
  refine ⟨fun σ' H3 => ∃ (p1 : Addr) (t1 : Tr), σ' = [some (.ref b), some (.int m), some (.ref kl), some (.ref ml), some (.bl sh), some (.int fr), some (.str w), some (.ref p1)] ∧ Gd ks ms false fr t1 ∧ SS (E := E1 Γ) H [b] H3 [trF t1 p1] [lstR pl xs, boxR b (n + 10 * (m - fr) - 3)], ?_, ?_⟩
  · walk_at "di"
    refine ⟨b, kl, ml, ks, ms, fr, n + 10 * (m - fr) - 3, sh, rfl, (s2.box (.tail _ (.head _))).less (by omega), hk.fr s2.fr, hm.fr s2.fr, f1, by omega, by omega, fun p t H' f b' hp g => ?_⟩
    exact ⟨p, t, rfl, g.1, (s2.draw (.next .here) f b').add (trF t p) hp⟩
  rintro σ' H3 ⟨p1, t1, rfl, g1, s3⟩
  walk_at "di"
  have g1d := g1.dep
  have g1s := g1.st
  have g1m := g1.tm
  simp only [Bool.false_eq_true, if_false] at g1d
  refine br_d (fun hw2 => ?_) (fun hw2 => ?_)
  · subst hw2
    refine ⟨b, kl, ml, ks, ms, m - fr, n, sh, by rw [show ((m : Int) - fr) = ((m - fr : Nat) : Int) from by omega], (s3.box (.tail _ (.head _))).less (by omega), hk.fr s3.fr, hm.fr s3.fr, by omega, by omega, by omega, fun p2 t2 H' f b' hp2 g2 => ⟨szl (by simp only [List.length_cons, List.length_nil]; omega), fun p3 hp3 => ?_⟩⟩
    have s4 := ((s3.draw (.next .here) f b').add (trF t2 p2) hp2).newT (xs := [.str (Str.ofString "when"), .ref p1, .ref p2]) hp3
    have g2d := g2.dep
    have g2s := g2.st
    have g2m := g2.tm
    simp only [if_true] at g2d
    refine q p3 (.two "when" t1 t2) _ s4.fr (s4.box (.tail _ (.head _))) ⟨p1, p2, s4.tup (.head _), s4.f _ (.tail _ (.tail _ (.head _))), s4.f _ (.tail _ (.head _))⟩ ⟨⟨.inr ⟨rfl, g1.wf, g2.wf⟩, ?_, ?_, ?_, h1, (g1.br.two g2.br (.inl rfl)).mono (by omega)⟩, fun e => by omega⟩
    · simp only [Tr.dep, Bool.false_eq_true, if_false]; omega
    · simp only [Tr.told, List.length_append]; omega
    · simp only [Tr.told, List.length_append]; omega
  · refine ⟨b, kl, ml, ks, ms, m - fr, n, sh, by rw [show ((m : Int) - fr) = ((m - fr : Nat) : Int) from by omega], (s3.box (.tail _ (.head _))).less (by omega), hk.fr s3.fr, hm.fr s3.fr, by omega, by omega, by omega, fun p2 t2 H' f b' hp2 g2 => ⟨szl (by simp only [List.length_cons, List.length_nil]; omega), fun p3 hp3 => ?_⟩⟩
    replace g2 := g2.1
    have s4 := ((s3.draw (.next .here) f b').add (trF t2 p2) hp2).newT (xs := [.str w, .ref p1, .ref p2]) hp3
    have g2d := g2.dep
    have g2s := g2.st
    have g2m := g2.tm
    simp only [Bool.false_eq_true, if_false] at g2d
    have hw3 : w = "then" ∨ w = "or" ∨ w = "and" := by
      rcases hw with h | h | h | h
      · exact .inl h
      · exact .inr (.inl h)
      · exact .inr (.inr h)
      · exact absurd h hw2
    refine q p3 (.two w t1 t2) _ s4.fr (s4.box (.tail _ (.head _))) ⟨p1, p2, s4.tup (.head _), s4.f _ (.tail _ (.tail _ (.head _))), s4.f _ (.tail _ (.head _))⟩ ⟨⟨.inl ⟨hw3, g1.wf, g2.wf⟩, ?_, ?_, ?_, h1, (g1.br.two g2.br (.inl rfl)).mono (by omega)⟩, fun e => by omega⟩
    · simp only [Tr.dep, Bool.false_eq_true, if_false]; omega
    · simp only [Tr.told, List.length_append]; omega
    · simp only [Tr.told, List.length_append]; omega
abbrev s_test : Stmt := topS 43
abbrev n_test : List Str := ["_law_box_here", "_law_most", "_law_kinds_so", "_law_marks_so", "_law_short", "_law_menu", "_law_word", "_law_front", "_law_mine", "_law_its"]
theorem sc_test : FnScope n_test ["_law_box_here", "_law_most", "_law_kinds_so", "_law_marks_so", "_law_short"] (defScope s_test) := ⟨rfl, rfl, rfl, by decide +kernel, rfl, by decide +kernel, by decide +kernel⟩
theorem nm_test : nvB n_test (defScope s_test) 0 "_law_box_here" = true ∧ nvB n_test (defScope s_test) 1 "_law_most" = true ∧ nvB n_test (defScope s_test) 2 "_law_kinds_so" = true ∧ nvB n_test (defScope s_test) 3 "_law_marks_so" = true ∧ nvB n_test (defScope s_test) 4 "_law_short" = true ∧ nvB n_test (defScope s_test) 5 "_law_menu" = true ∧ nvB n_test (defScope s_test) 6 "_law_word" = true ∧ nvB n_test (defScope s_test) 7 "_law_front" = true ∧ nvB n_test (defScope s_test) 8 "_law_mine" = true ∧ nvB n_test (defScope s_test) 9 "_law_its" = true ∧ lvB n_test (defScope s_test) 5 "_law_menu" = true ∧ lvB n_test (defScope s_test) 6 "_law_word" = true ∧ lvB n_test (defScope s_test) 7 "_law_front" = true ∧ lvB n_test (defScope s_test) 8 "_law_mine" = true ∧ lvB n_test (defScope s_test) 9 "_law_its" = true ∧ gvB (defScope s_test) "_law_leaf" = true ∧ gvB (defScope s_test) "_law_look" = true ∧ gvB (defScope s_test) "_law_of" = true ∧ gvB (defScope s_test) "_law_take" = true ∧ gvB (defScope s_test) "_law_test" = true := by decide +kernel
theorem cl_test {Γ : Gm} (dfn : Dfn Γ "_law_test" s_test ["_law_box_here", "_law_most", "_law_kinds_so", "_law_marks_so", "_law_short"]) (T : Names Γ) {d : Nat} (c_law_take : Cl Γ CX0 1 "_law_take" spTake []) (c_law_of : Cl Γ CX0 2 "_law_of" (spOf Γ.K) []) (c_law_leaf : Cl Γ CX0 3 "_law_leaf" (spLeaf Γ.K) []) (c_law_look : Cl Γ CX0 (2 * d + 5) "_law_look" (spLook Γ.K (d + 1)) []) (c_law_test : Cl Γ CX0 (2 * d + 4) "_law_test" (spTest Γ.K d) []) : Cl Γ CX0 (2 * d + 6) "_law_test" (spTest Γ.K (d + 1)) [] := by
  refine dfn.cl sc_test (fun vs H Q E h => ?_) (fun f cdv A outer s H vs Q E hg h => ?_)
  · obtain ⟨b, kl, ml, ks, ms, m, n, sh, rfl, _⟩ := h
    rfl
  obtain ⟨b, kl, ml, ks, ms, m, n, sh, rfl, hb, hk, hm, h1, hd, hm40, q⟩ := h
  have nd := sc_test.nd
  obtain ⟨v0, v1, v2, v3, v4, v5, v6, v7, v8, v9, l5, l6, l7, l8, l9, g__law_leaf, g__law_look, g__law_of, g__law_take, g__law_test⟩ := nm_test
  refine ⟨_, (pss_cons (pst (i := 5) nd l5 (pe_lst (pa_cons pe_str (pa_cons pe_str (pa_cons pe_str (pa_cons pe_str (pa_cons pe_str (pa_cons pe_str pa_nil))))))))
    (C8.pss_cut (ps_ifB (pt_cm (k_gt hg) (ps 1 v1) pe_int (nomark _))
    (pss_one (pst (i := 5) nd l5 (pe_lst (pa_cons pe_str (pa_cons pe_str (pa_cons pe_str (pa_cons pe_str (pa_cons pe_str (pa_cons pe_str pa_nil)))))))))
    pss_nil)
    (C8.pss_cut (pst (i := 6) nd l6 (pcl c_law_of hg (by omega) g__law_of pass0 (pa_cons (ps 0 v0) (pa_cons (ps 5 v5) pa_nil))))
    (pss_cons (ps_ifB (PW.pt (pw_orB (pt_cm (k_eq hg) (ps 6 v6) pe_str (nomark _)) (pw_or1 (PW.pt (pw_andB (pt_cm (k_eq hg) (ps 6 v6) pe_str (nomark _)) (pw_and1 (pt_cm (k_eq hg) (ps 3 v3) (pe_lst pa_nil) (nomark _))))))))
    (pss_one (ps_ret (pe_tup (pa_cons pe_str pa_nil))))
    pss_nil)
    (pss_cons (ps_ifB (pt_cm (k_eq hg) (ps 6 v6) pe_str (nomark _))
    (pss_one (ps_ret (pe_tup (pa_cons pe_str (pa_cons (pcl c_law_of hg (by omega) g__law_of pass0 (pa_cons (ps 0 v0) (pa_cons (ps 3 v3) pa_nil))) pa_nil)))))
    pss_nil)
    (pss_cons (ps_ifB (pt_cm (k_eq hg) (ps 6 v6) pe_str (nomark _))
    (pss_one (ps_ret (pe_tup (pa_cons pe_str (pa_cons (pe_tup (pa_cons pe_str (pa_cons (pcl c_law_leaf hg (by omega) g__law_leaf pass0 (pa_cons (ps 0 v0) (pa_cons (ps 2 v2) (pa_cons (ps 4 v4) pa_nil)))) pa_nil))) pa_nil)))))
    pss_nil)
    (pss_cons (ps_ifB (pt_cm (k_eq hg) (ps 6 v6) pe_str (nomark _))
    (pss_one (ps_ret (pe_tup (pa_cons pe_str (pa_cons (pcl c_law_look hg (by omega) g__law_look pass0 (pa_cons (ps 0 v0) (pa_cons (ps 1 v1) (pa_cons (ps 2 v2) (pa_cons (ps 3 v3) (pa_cons (ps 4 v4) pa_nil)))))) pa_nil)))))
    pss_nil)
    (pss_cons (pst (i := 7) nd l7 (pe_op (k_add hg) pe_int (pcl c_law_take hg (by omega) g__law_take pass0 (pa_cons (ps 0 v0) (pa_cons (pe_op (k_sub hg) (ps 1 v1) pe_int) pa_nil)))))
    (pss_cons (ps_ifB (pt_cm (k_eq hg) (ps 6 v6) pe_str (nomark _))
    (pss_cons (pst (i := 8) nd l8 (pcl c_law_look hg (by omega) g__law_look pass0 (pa_cons (ps 0 v0) (pa_cons (ps 7 v7) (pa_cons (ps 2 v2) (pa_cons (ps 3 v3) (pa_cons (ps 4 v4) pa_nil)))))))
    (pss_one (ps_ret (pe_tup (pa_cons pe_str (pa_cons (ps 8 v8) (pa_cons (pcl c_law_look hg (by omega) g__law_look pass0 (pa_cons (ps 0 v0) (pa_cons (pe_op (k_sub hg) (ps 1 v1) (ps 7 v7)) (pa_cons (ps 2 v2) (pa_cons (ps 3 v3) (pa_cons (ps 4 v4) pa_nil)))))) pa_nil)))))))
    pss_nil)
    (pss_cons (pst (i := 8) nd l8 (pcl c_law_test hg (by omega) g__law_test pass0 (pa_cons (ps 0 v0) (pa_cons (ps 7 v7) (pa_cons (ps 2 v2) (pa_cons (ps 3 v3) (pa_cons (ps 4 v4) pa_nil)))))))
    (pss_cons (pst (i := 9) nd l9 (pcl c_law_test hg (by omega) g__law_test pass0 (pa_cons (ps 0 v0) (pa_cons (pe_op (k_sub hg) (ps 1 v1) (ps 7 v7)) (pa_cons (ps 2 v2) (pa_cons (ps 3 v3) (pa_cons (ps 4 v4) pa_nil)))))))
    (pss_one (ps_ret (pe_ifB (pt_cm (k_eq hg) (ps 6 v6) pe_str (nomark _)) (pe_tup (pa_cons pe_str (pa_cons (pe_tup (pa_cons pe_str (pa_cons (ps 8 v8) (pa_cons (ps 9 v9) pa_nil)))) pa_nil))) (pe_tup (pa_cons (ps 6 v6) (pa_cons (ps 8 v8) (pa_cons (ps 9 v9) pa_nil)))))))))))))))))), ?_⟩
  refine st_start (σ := [some _, some _, some _, some _, some _, none, none, none, none, none]) rfl ?_
  walk_at "dn"
  have tend : ∀ (w : Str) (p : Addr) (t : Tr) (H2 : Hp) (F : List (PF (E1 Γ))) (R : List (RS (E1 Γ))) (N : Nat), SS (E := E1 Γ) H [b] H2 F R → boxR b (n + N) ∈ R → TrP Γ.K H2 t p → Gd ks ms true m t → Q (.ref p) H2 :=
    fun w p t H2 F R N s hbm hp g => q p t H2 s.fr ((s.box hbm).less (by omega)) hp g
  have alw : ∀ (H2 : Hp) (F : List (PF (E1 Γ))) (R : List (RS (E1 Γ))) (N : Nat), SS (E := E1 Γ) H [b] H2 F R → boxR b (n + N) ∈ R → [V.str (Str.ofString "always")].length ≤ sizeLine ∧ ∀ p, H2 p = none → Q (.ref p) (upd H2 p (.tup [.str (Str.ofString "always")])) := by
    intro H2 F R N s hbm
    refine ⟨szl (by simp only [List.length_cons, List.length_nil]; omega), fun p hp => ?_⟩
    exact tend "" p (.z "always") _ _ _ N (s.newT hp) hbm (SqT.of upd_same) ⟨rfl, by simp only [Tr.dep, if_true]; omega, by simp [Tr.told], by simp [Tr.told], h1, (show 0 + 3 ≤ 7 * m by omega)⟩
  have okm : ∀ k ∈ ms, PyData.strOk k = true := fun k hk2 => Nm.ok (hm.2.2.2 k hk2)
  have s0 : SS (E := E1 Γ) H [b] H [] [boxR b (n + 10 * m - 3)] := SS.box1 hb
  refine ⟨szl (by simp only [List.length_cons, List.length_nil]; omega), fun pa hpa => ⟨fun σ' H1 => ∃ (pm : Addr) (ws : List Str) (R : List (RS (E1 Γ))), σ' = [some (.ref b), some (.int m), some (.ref kl), some (.ref ml), some (.bl sh), some (.ref pm), none, none, none, none] ∧ pm ≠ b ∧ 0 < ws.length ∧ ws.length ≤ 6 ∧
    ((m = 1 ∧ ∀ w ∈ ws, w = "found" ∨ w = "marked" ∨ w = "bare" ∨ w = "always") ∨ (1 < m ∧ ∀ w ∈ ws, w = "not" ∨ w = "and" ∨ w = "or" ∨ w = "xor" ∨ w = "found" ∨ w = "same")) ∧
    SS (E := E1 Γ) H [b] H1 [] [lstR pm (ws.map V.str), boxR b (n + 10 * m - 3)], ?_, ?_⟩⟩
  · have s1 := s0.newC (o := .lst [.str (Str.ofString "found"), .str (Str.ofString "found"), .str (Str.ofString "marked"), .str (Str.ofString "marked"), .str (Str.ofString "bare"), .str (Str.ofString "always")]) hpa (fun z => z)
    refine br_d (fun hm1 => ⟨szl (by simp only [List.length_cons, List.length_nil]; omega), fun pb hpb => ?_⟩) (fun hm1 => ?_)
    · have s2 := s1.drop.newC (o := .lst [.str (Str.ofString "not"), .str (Str.ofString "and"), .str (Str.ofString "or"), .str (Str.ofString "xor"), .str (Str.ofString "found"), .str (Str.ofString "same")]) hpb (fun z => z)
      refine ⟨pb, ["not", "and", "or", "xor", "found", "same"], [], rfl, fun e => ?_, by decide, by decide, .inr ⟨by omega, fun w hw => ?_⟩, s2⟩
      · obtain ⟨xs, e2⟩ := (s1.box (.tail _ (.head _))).cell
        rw [e, e2] at hpb; cases hpb
      · simpa using hw
    · refine ⟨pa, ["found", "found", "marked", "marked", "bare", "always"], [], rfl, fun e => ?_, by decide, by decide, .inl ⟨by omega, fun w hw => ?_⟩, s1⟩
      · obtain ⟨xs, e2⟩ := hb.cell
        rw [e, e2] at hpa; cases hpa
      · have := hw
        simp only [List.mem_cons, List.not_mem_nil, or_false] at this
        rcases this with h | h | h | h | h | h
        · exact .inl h
        · exact .inl h
        · exact .inr (.inl h)
        · exact .inr (.inl h)
        · exact .inr (.inr (.inl h))
        · exact .inr (.inr (.inr h))
  rintro σ' H1 ⟨pm, ws, _, rfl, hpb, hw0, hw6, hws, s1⟩
  refine ⟨fun σ' H2 => ∃ (w : Str) (pm : Addr) (xs : List V), σ' = [some (.ref b), some (.int m), some (.ref kl), some (.ref ml), some (.bl sh), some (.ref pm), some (.str w), none, none, none] ∧
    ((m = 1 ∧ (w = "found" ∨ w = "marked" ∨ w = "bare" ∨ w = "always")) ∨ (1 < m ∧ (w = "not" ∨ w = "and" ∨ w = "or" ∨ w = "xor" ∨ w = "found" ∨ w = "same"))) ∧ SS (E := E1 Γ) H [b] H2 [] [lstR pm xs, boxR b (n + 10 * m - 4)], ?_, ?_⟩
  · walk_at "di"
    refine ⟨b, _, n + 10 * m - 4, rfl, (s1.box (.tail _ (.head _))).less (by omega), .inl ⟨pm, _, rfl, hpb, SqL.of (s1.cell (.head _)), by rw [List.length_map]; omega, by rw [List.length_map]; omega, fun v hv H5 f5 b5 => ?_⟩⟩
    obtain ⟨w, hw, rfl⟩ := List.mem_map.mp hv
    refine ⟨w, pm, _, rfl, ?_, s1.draw (.next .here) f5 b5⟩
    rcases hws with ⟨h, k⟩ | ⟨h, k⟩
    · exact .inl ⟨h, k w hw⟩
    · exact .inr ⟨h, k w hw⟩
  rintro σ' H2 ⟨w, pm, xs, rfl, hw, s2⟩
  walk_at "di"
  have hml : H2 ml = some (.lst (ms.map V.str)) := s2.fr _ _ (fun z => hm.2.1 (List.mem_singleton.mp z)) hm.1
  have found : w = "found" → spLook Γ.K (d + 1) [.ref b, .int m, .ref kl, .ref ml, .bl sh] H2 (fun x H1 => [V.str (Str.ofString "found"), x].length ≤ sizeLine ∧ ∀ p, H1 p = none → Q (.ref p) (upd H1 p (.tup [.str (Str.ofString "found"), x]))) E0 := by
    intro _
    refine ⟨b, kl, ml, ks, ms, m, n, sh, rfl, (s2.box (.tail _ (.head _))).less (by omega), hk.fr s2.fr, hm.fr s2.fr, h1, hd, hm40, fun p t H' f b' hp g => ⟨szl (by simp only [List.length_cons, List.length_nil]; omega), fun p3 hp3 => ?_⟩⟩
    have s4 := ((s2.draw (.next .here) f b').add (trF t p) hp).newT (xs := [.str (Str.ofString "found"), .ref p]) hp3
    have gd := g.1.dep
    simp only [Bool.false_eq_true, if_false] at gd
    exact tend "" p3 (.one "found" t) _ _ _ 0 s4 (.tail _ (.head _)) ⟨p, s4.tup (.head _), s4.f _ (.tail _ (.head _))⟩ ⟨.inl ⟨rfl, g.1.wf⟩, by simp only [Tr.dep, if_true]; omega, g.1.st, g.1.tm, h1, g.1.br.one⟩
  refine br_d (fun hw1 => alw _ _ _ (10 * m - 4) s2 (by rw [show n + (10 * m - 4) = n + 10 * m - 4 from by omega]; exact .tail _ (.head _))) (fun hw1 => ?_)
  refine br_d (fun hw2 => ?_) (fun hw2 => br_f hw2 ?_)
  · refine ⟨szl (by simp only [List.length_nil]; omega), fun pe hpe => ?_⟩
    have s3 := s2.newC (o := .lst []) hpe (fun z => z)
    have hml3 : upd H2 pe (.lst []) ml = some (.lst (ms.map V.str)) := s3.fr _ _ (fun z => hm.2.1 (List.mem_singleton.mp z)) hm.1
    refine wo_eqE (SqL.of hml3) (SqL.of upd_same) okm ?_
    walk_at "di"
    refine br_b (fun e => alw _ _ _ (10 * m - 4) s3 (by rw [show n + (10 * m - 4) = n + 10 * m - 4 from by omega]; exact .tail _ (.tail _ (.head _)))) (fun e => br_t hw2 ?_)
    have hpos : 0 < ms.length := by cases ms with
      | nil => cases e
      | cons _ _ => exact Nat.succ_pos _
    refine ⟨b, _, n + 10 * m - 5, rfl, (s3.box (.tail _ (.tail _ (.head _)))).less (by omega), .inl ⟨ml, _, rfl, hm.2.1, SqL.of hml3, by rw [List.length_map]; exact hpos, by rw [List.length_map]; have := hm.2.2.1; omega, fun v hv H5 f5 b5 => ?_⟩⟩
    obtain ⟨k, hk1, rfl⟩ := List.mem_map.mp hv
    refine ⟨szl (by simp only [List.length_cons, List.length_nil]; omega), fun p hp => ?_⟩
    have s5 := (s3.draw (.next (.next .here)) f5 b5).newT (xs := [.str (Str.ofString "marked"), .str k]) hp
    exact q p (.mk k) _ s5.fr ((s5.box (.tail _ (.tail _ (.head _)))).less (by omega)) (s5.tup (.head _)) ⟨hk1, by simp only [Tr.dep, if_true]; omega, Nat.le_trans (told_mk _ _) (by omega), Nat.le_trans (told_mk _ _) h1, h1, (show 1 + 3 ≤ 7 * m by omega)⟩
  refine br_d (fun hw3 => ?_) (fun hw3 => br_d (fun hw4 => found hw4) (fun hw4 => ?_))
  · refine ⟨b, kl, sh, ks, n + 10 * m - 9, rfl, (s2.box (.tail _ (.head _))).less (by omega), hk.fr s2.fr, fun p t H' f b' hp g => ⟨szl (by simp only [List.length_cons, List.length_nil]; omega), fun p2 hp2 => ⟨szl (by simp only [List.length_cons, List.length_nil]; omega), fun p3 hp3 => ?_⟩⟩⟩
    have s5 := (((s2.draw (.next .here) f b').add (trF t p) hp).newT (xs := [.str (Str.ofString "found"), .ref p]) hp2).newT (xs := [.str (Str.ofString "not"), .ref p2]) hp3
    have g1 := g.2.2 ms
    have gd := g1.dep
    have gs := g1.st
    have gm := g1.tm
    simp only [Bool.false_eq_true, if_false] at gd
    exact q p3 (.one "not" (.one "found" t)) _ s5.fr ((s5.box (.tail _ (.head _))).less (by omega)) ⟨p2, s5.tup (.head _), p, s5.tup (.tail _ (.head _)), s5.f _ (.tail _ (.tail _ (.head _)))⟩ ⟨.inr ⟨rfl, .inl ⟨rfl, g1.wf⟩⟩, by simp only [Tr.dep, if_true]; omega, by simp only [Tr.told]; omega, by simp only [Tr.told]; omega, h1, (show t.brk + 1 + 1 + 3 ≤ 7 * m by have h : t.brk + 5 ≤ 7 * 1 := g1.br; omega)⟩
  have hm1 : 1 < m ∧ (w = "not" ∨ w = "and" ∨ w = "or" ∨ w = "xor" ∨ w = "same") := by
    rcases hw with ⟨_, h | h | h | h⟩ | ⟨h0, h | h | h | h | h | h⟩
    · exact absurd h hw4
    · exact absurd h hw2
    · exact absurd h hw3
    · exact absurd h hw1
    · exact ⟨h0, .inl h⟩
    · exact ⟨h0, .inr (.inl h)⟩
    · exact ⟨h0, .inr (.inr (.inl h))⟩
    · exact ⟨h0, .inr (.inr (.inr (.inl h)))⟩
    · exact absurd h hw4
    · exact ⟨h0, .inr (.inr (.inr (.inr h)))⟩
  obtain ⟨hm1, hws⟩ := hm1
  refine ⟨b, _, n + 10 * m - 5, rfl, by omega, by omega, (s2.box (.tail _ (.head _))).less (by omega), fun r H3 r0 r1 f3 b3 => ?_⟩
  have s3 := s2.draw (.next .here) f3 b3
  walk_at "di"
  obtain ⟨fr, hfr⟩ : ∃ fr : Nat, 1 + r = fr := ⟨(1 + r).toNat, by omega⟩
  rw [hfr]
  refine br_d (fun hw5 => ?_) (fun hw5 => ?_)
  · refine ⟨b, kl, ml, ks, ms, fr, n + 10 * (m - fr), sh, rfl, (s3.box (.tail _ (.head _))).less (by omega), hk.fr s3.fr, hm.fr s3.fr, by omega, by omega, by omega, fun p1 t1 H' f b' hp1 g1 => ?_⟩
    have s4 := (s3.draw (.next .here) f b').add (trF t1 p1) hp1
    walk_at "di"
    refine ⟨b, kl, ml, ks, ms, m - fr, n, sh, by rw [show ((m : Int) - fr) = ((m - fr : Nat) : Int) from by omega], (s4.box (.tail _ (.head _))).less (by omega), hk.fr s4.fr, hm.fr s4.fr, by omega, by omega, by omega, fun p2 t2 H'' f2 b2 hp2 g2 => ⟨szl (by simp only [List.length_cons, List.length_nil]; omega), fun p3 hp3 => ?_⟩⟩
    have s5 := ((s4.draw (.next .here) f2 b2).add (trF t2 p2) hp2).newT (xs := [.str (Str.ofString "same"), .ref p1, .ref p2]) hp3
    have g1d := g1.1.dep
    have g2d := g2.1.dep
    have := g1.1.st
    have := g2.1.st
    have := g1.1.tm
    have := g2.1.tm
    simp only [Bool.false_eq_true, if_false] at g1d g2d
    exact q p3 (.two "same" t1 t2) _ s5.fr (s5.box (.tail _ (.head _))) ⟨p1, p2, s5.tup (.head _), s5.f _ (.tail _ (.tail _ (.head _))), s5.f _ (.tail _ (.head _))⟩ ⟨.inl ⟨rfl, g1.1.wf, g2.1.wf⟩, by simp only [Tr.dep, if_true]; omega, by simp only [Tr.told, List.length_append]; omega, by simp only [Tr.told, List.length_append]; omega, h1, (g1.1.br.twoL g2.1.br).mono (by omega)⟩
  · refine ⟨b, kl, ml, ks, ms, fr, n + 10 * (m - fr) - 2, sh, rfl, (s3.box (.tail _ (.head _))).less (by omega), hk.fr s3.fr, hm.fr s3.fr, by omega, by omega, by omega, fun p1 t1 H' f b' hp1 g1 => ?_⟩
    have s4 := (s3.draw (.next .here) f b').add (trF t1 p1) hp1
    walk_at "di"
    refine ⟨b, kl, ml, ks, ms, m - fr, n, sh, by rw [show ((m : Int) - fr) = ((m - fr : Nat) : Int) from by omega], (s4.box (.tail _ (.head _))).less (by omega), hk.fr s4.fr, hm.fr s4.fr, by omega, by omega, by omega, fun p2 t2 H'' f2 b2 hp2 g2 => ?_⟩
    have s5 := (s4.draw (.next .here) f2 b2).add (trF t2 p2) hp2
    have g1d := g1.dep
    have g2d := g2.dep
    have := g1.st
    have := g2.st
    have := g1.tm
    have := g2.tm
    simp only [if_true] at g1d g2d
    refine br_d (fun hw6 => ?_) (fun hw6 => ?_)
    · refine ⟨szl (by simp only [List.length_cons, List.length_nil]; omega), fun p3 hp3 => ⟨szl (by simp only [List.length_cons, List.length_nil]; omega), fun p4 hp4 => ?_⟩⟩
      have s6 := (s5.newT (xs := [.str (Str.ofString "and"), .ref p1, .ref p2]) hp3).newT (xs := [.str (Str.ofString "not"), .ref p3]) hp4
      exact q p4 (.one "not" (.two "and" t1 t2)) _ s6.fr (s6.box (.tail _ (.head _))) ⟨p3, s6.tup (.head _), p1, p2, s6.tup (.tail _ (.head _)), s6.f _ (.tail _ (.tail _ (.tail _ (.head _)))), s6.f _ (.tail _ (.tail _ (.head _)))⟩ ⟨.inr ⟨rfl, .inr ⟨.inl rfl, g1.wf, g2.wf⟩⟩, by simp only [Tr.dep, if_true]; omega, by simp only [Tr.told, List.length_append]; omega, by simp only [Tr.told, List.length_append]; omega, h1, (g1.br.notand g2.br).mono (by omega)⟩
    · refine ⟨szl (by simp only [List.length_cons, List.length_nil]; omega), fun p3 hp3 => ?_⟩
      have s6 := s5.newT (xs := [.str w, .ref p1, .ref p2]) hp3
      have hw7 : w = "and" ∨ w = "or" ∨ w = "xor" := by
        rcases hws with h | h | h | h | h
        · exact absurd h hw6
        · exact .inl h
        · exact .inr (.inl h)
        · exact .inr (.inr h)
        · exact absurd h hw5
      exact q p3 (.two w t1 t2) _ s6.fr (s6.box (.tail _ (.head _))) ⟨p1, p2, s6.tup (.head _), s6.f _ (.tail _ (.tail _ (.head _))), s6.f _ (.tail _ (.head _))⟩ ⟨.inr ⟨hw7, g1.wf, g2.wf⟩, by simp only [Tr.dep, if_true]; omega, by simp only [Tr.told, List.length_append]; omega, by simp only [Tr.told, List.length_append]; omega, h1, (g1.br.twoT g2.br).mono (by omega)⟩
def spMade (K : PySem.W.Frag) (C : Addr) (tst : Bool) (d : Nat) : Sp := fun vs H Q _ => ∃ (p : Addr) (t : Tr) (ks ms : List Str), vs = [.ref p] ∧ TrP K H t p ∧ t.wf ks ms tst ∧ (∀ k ∈ ks, Nm k) ∧ (∀ k ∈ ms, Nm k) ∧ t.dep ≤ d ∧ ∀ a H', Same H H' → LkP K H' C t a → Q (.ref a) H'
def spSame (K : PySem.W.Frag) (d : Nat) : Sp := fun vs H Q _ => ∃ (x y : V) (dt : PyData), vs = [x, y] ∧ Dp K H x dt ∧ Dp K H y dt ∧ dt.depth < d ∧ few dt ∧ ∀ H', Same H H' → Q (.bl true) H'
theorem ki_int_list : kitB "int" "list" = some false := by decide +kernel
theorem ki_int_tuple : kitB "int" "tuple" = some false := by decide +kernel
theorem ki_int_bool : kitB "int" "bool" = some false := by decide +kernel
theorem ki_int_str : kitB "int" "str" = some false := by decide +kernel
theorem ki_int_int : kitB "int" "int" = some true := by decide +kernel
theorem ki_bool_list : kitB "bool" "list" = some false := by decide +kernel
theorem ki_bool_tuple : kitB "bool" "tuple" = some false := by decide +kernel
theorem ki_bool_bool : kitB "bool" "bool" = some true := by decide +kernel
theorem ki_bool_str : kitB "bool" "str" = some false := by decide +kernel
theorem ki_str_list : kitB "str" "list" = some false := by decide +kernel
theorem ki_str_tuple : kitB "str" "tuple" = some false := by decide +kernel
theorem ki_str_bool : kitB "str" "bool" = some false := by decide +kernel
theorem ki_str_str : kitB "str" "str" = some true := by decide +kernel
theorem ki_NoneType_list : kitB "NoneType" "list" = some false := by decide +kernel
theorem ki_NoneType_tuple : kitB "NoneType" "tuple" = some false := by decide +kernel
theorem ki_NoneType_bool : kitB "NoneType" "bool" = some false := by decide +kernel
theorem ki_list_list : kitB "list" "list" = some true := by decide +kernel
theorem ki_list_tuple : kitB "list" "tuple" = some false := by decide +kernel
theorem ki_tuple_list : kitB "tuple" "list" = some false := by decide +kernel
theorem ki_tuple_tuple : kitB "tuple" "tuple" = some true := by decide +kernel
abbrev s_same : Stmt := topS 39
abbrev n_same : List Str := ["_law_got", "_law_due", "_law_mine", "_law_its"]
theorem sc_same : FnScope n_same ["_law_got", "_law_due"] (defScope s_same) := ⟨rfl, rfl, rfl, by decide +kernel, rfl, by decide +kernel, by decide +kernel⟩
theorem nm_same : nvB n_same (defScope s_same) 0 "_law_got" = true ∧ nvB n_same (defScope s_same) 1 "_law_due" = true ∧ gvB (defScope s_same) "all" = true ∧ gvB (defScope s_same) "bool" = true ∧ gvB (defScope s_same) "int" = true ∧ gvB (defScope s_same) "isinstance" = true ∧ gvB (defScope s_same) "len" = true ∧ gvB (defScope s_same) "list" = true ∧ gvB (defScope s_same) "str" = true ∧ gvB (defScope s_same) "tuple" = true ∧ gvB (defScope s_same) "zip" = true := by decide +kernel
theorem cl_same {Γ : Gm} (dfn : Dfn Γ "_law_same" s_same ["_law_got", "_law_due"]) (T : Names Γ) {d : Nat} (c_law_same : Cl Γ CX0 (d + 1) "_law_same" (spSame Γ.K d) []) : Cl Γ CX0 (d + 2) "_law_same" (spSame Γ.K (d + 1)) [] := by
  refine dfn.cl sc_same (fun vs H Q E h => ?_) (fun f cdv A outer s H vs Q E hg h => ?_)
  · obtain ⟨x, y, dt, rfl, _⟩ := h
    rfl
  obtain ⟨x, y, dt, rfl, hx, hy, hd, hf, q⟩ := h
  have nd := sc_same.nd
  obtain ⟨v0, v1, g_all, g_bool, g_int, g_isinstance, g_len, g_list, g_str, g_tuple, g_zip⟩ := nm_same
  refine ⟨_, (pss_cons (ps_ifB (pt_tr hg (pcb (WC.ok hg) g_isinstance T.n_isinstance bt_isinstance (pa_cons (ps 1 v1) (pa_cons (pe_tup (pa_cons (pe_bltn (v := .ty "list") (gv_of g_list).1 T.n_list bt_list rfl) (pa_cons (pe_bltn (v := .ty "tuple") (gv_of g_tuple).1 T.n_tuple bt_tuple rfl) pa_nil))) pa_nil))))
    (pss_cons (ps_ifB (pt_cm (k_ne hg) (pcb (WC.ok hg) g_isinstance T.n_isinstance bt_isinstance (pa_cons (ps 0 v0) (pa_cons (pe_bltn (v := .ty "list") (gv_of g_list).1 T.n_list bt_list rfl) pa_nil))) (pcb (WC.ok hg) g_isinstance T.n_isinstance bt_isinstance (pa_cons (ps 1 v1) (pa_cons (pe_bltn (v := .ty "list") (gv_of g_list).1 T.n_list bt_list rfl) pa_nil))) (nomark _))
    (pss_one (ps_ret pe_bl))
    pss_nil)
    (pss_cons (ps_ifB (pt_cm (k_ne hg) (pcb (WC.ok hg) g_isinstance T.n_isinstance bt_isinstance (pa_cons (ps 0 v0) (pa_cons (pe_bltn (v := .ty "tuple") (gv_of g_tuple).1 T.n_tuple bt_tuple rfl) pa_nil))) (pcb (WC.ok hg) g_isinstance T.n_isinstance bt_isinstance (pa_cons (ps 1 v1) (pa_cons (pe_bltn (v := .ty "tuple") (gv_of g_tuple).1 T.n_tuple bt_tuple rfl) pa_nil))) (nomark _))
    (pss_one (ps_ret pe_bl))
    pss_nil)
    (pss_one (ps_ret (pe_and2 hg (pe_cmpR (k_eq hg) (pcb (k_len hg) g_len T.n_len bt_len (pa_cons (ps 0 v0) pa_nil)) (pcb (k_len hg) g_len T.n_len bt_len (pa_cons (ps 1 v1) pa_nil)) (nomark _)) (pe_one (pcb (WC.ok hg) g_all T.n_all bt_all (pa_cons (pe_lc (own := [("_law_mine", 2), ("_law_its", 3)]) rfl nd (pi_zA hg g_zip T.n_zip (pa_cons (ps 0 v0) (pa_cons (ps 1 v1) pa_nil))) (blkOk_by (N := n_same) (sc := defScope s_same) (by decide +kernel)) (fun _ _ _ _ _ => (pg_tK hg.blk 2 rfl (pgs_c (pg_name (i := 2) nd rfl (by first | exact .inl rfl | exact .inr rfl)) (pgs_c (pg_name (i := 3) nd rfl (by first | exact .inl rfl | exact .inr rfl)) pgs_0)))) (fun _ _ _ _ _ => pts_nil) (fun _ _ _ _ _ => (pcl c_law_same hg.blk (by omega) (by rfl) pass0 (pa_cons (psr 2) (pa_cons (psr 3) pa_nil))))) pa_nil))))))))
    pss_nil)
    (pss_cons (ps_ifB (PW.pt (pw_orB (pt_cm (k_is hg) (ps 1 v1) pe_non (nomark _)) (pw_or1 (pt_tr hg (pcb (WC.ok hg) g_isinstance T.n_isinstance bt_isinstance (pa_cons (ps 1 v1) (pa_cons (pe_tup (pa_cons (pe_bltn (v := .ty "bool") (gv_of g_bool).1 T.n_bool bt_bool rfl) (pa_cons (pe_bltn (v := .ty "str") (gv_of g_str).1 T.n_str bt_str rfl) pa_nil))) pa_nil)))))))
    (pss_one (ps_ret (pe_and2 hg (pe_cmpR (k_eq hg) (ps 0 v0) (ps 1 v1) (nomark _)) (pe_and2 hg (pe_cmpR (k_eq hg) (pcb (WC.ok hg) g_isinstance T.n_isinstance bt_isinstance (pa_cons (ps 0 v0) (pa_cons (pe_bltn (v := .ty "bool") (gv_of g_bool).1 T.n_bool bt_bool rfl) pa_nil))) (pcb (WC.ok hg) g_isinstance T.n_isinstance bt_isinstance (pa_cons (ps 1 v1) (pa_cons (pe_bltn (v := .ty "bool") (gv_of g_bool).1 T.n_bool bt_bool rfl) pa_nil))) (nomark _)) (pe_one (pe_cmpR (k_eq hg) (pe_cmpR (k_is hg) (ps 0 v0) pe_non (nomark _)) (pe_cmpR (k_is hg) (ps 1 v1) pe_non (nomark _)) (nomark _)))))))
    pss_nil)
    (pss_one (ps_ret (pe_and2 hg (pcb (WC.ok hg) g_isinstance T.n_isinstance bt_isinstance (pa_cons (ps 0 v0) (pa_cons (pe_bltn (v := .ty "int") (gv_of g_int).1 T.n_int bt_int rfl) pa_nil))) (pe_and2 hg (pe_not2 hg (pcb (WC.ok hg) g_isinstance T.n_isinstance bt_isinstance (pa_cons (ps 0 v0) (pa_cons (pe_bltn (v := .ty "bool") (gv_of g_bool).1 T.n_bool bt_bool rfl) pa_nil)))) (pe_one (pe_cmpR (k_eq hg) (ps 0 v0) (ps 1 v1) (nomark _))))))))), ?_⟩
  refine st_start (σ := [some _, some _, none, none]) rfl ?_
  walk_at "dn"
  refine ⟨szl (by simp only [List.length_cons, List.length_nil]; omega), fun T hT => ?_⟩
  have s1 := Same.mk (o := .tup [.ty "list", .ty "tuple"]) hT
  replace hx := Dp.same s1 hx
  replace hy := Dp.same s1 hy
  cases hy with
  | int i =>
    cases hx
    refine wc_isi2 (Dp.int i) upd_same ki_int_list ki_int_tuple ?_
    walk_at "di"
    refine ⟨szl (by simp only [List.length_cons, List.length_nil]; omega), fun T2 hT2 => ?_⟩
    refine wc_isi2 (Dp.int i) upd_same ki_int_bool ki_int_str ?_
    walk_at "di"
    refine wc_isi1 (Dp.int i) ki_int_int ?_
    walk_at "di"
    refine wc_isi1 (Dp.int i) ki_int_bool ?_
    walk_at "di"
    rw [decide_eq_true rfl]
    exact q _ (s1.trans (Same.mk hT2))
  | bl v =>
    cases hx
    refine wc_isi2 (Dp.bl v) upd_same ki_bool_list ki_bool_tuple ?_
    walk_at "di"
    refine ⟨szl (by simp only [List.length_cons, List.length_nil]; omega), fun T2 hT2 => ?_⟩
    refine wc_isi2 (Dp.bl v) upd_same ki_bool_bool ki_bool_str ?_
    refine br_t (p := v = v) rfl ?_
    refine wc_isi1 (Dp.bl v) ki_bool_bool (wc_isi1 (Dp.bl v) ki_bool_bool ?_)
    walk_at "di"
    exact q _ (s1.trans (Same.mk hT2))
  | str v =>
    cases hx
    refine wc_isi2 (Dp.str v) upd_same ki_str_list ki_str_tuple ?_
    walk_at "di"
    refine ⟨szl (by simp only [List.length_cons, List.length_nil]; omega), fun T2 hT2 => ?_⟩
    refine wc_isi2 (Dp.str v) upd_same ki_str_bool ki_str_str ?_
    refine br_t (p := v = v) rfl ?_
    refine wc_isi1 (Dp.str v) ki_str_bool (wc_isi1 (Dp.str v) ki_str_bool ?_)
    walk_at "di"
    exact q _ (s1.trans (Same.mk hT2))
  | non =>
    cases hx
    refine wc_isi2 Dp.non upd_same ki_NoneType_list ki_NoneType_tuple ?_
    walk_at "di"
    refine wc_isi1 Dp.non ki_NoneType_bool (wc_isi1 Dp.non ki_NoneType_bool ?_)
    walk_at "di"
    exact q _ s1
  | @lst b xs2 ds h1 h2 =>
    cases hx with
    | @lst a xs1 _ k1 k2 =>
    refine wc_isi2 (.lst h1 h2) upd_same ki_list_list ki_list_tuple ?_
    show WC _ _ _ _ _
    refine wc_isi1 (.lst k1 k2) ki_list_list (wc_isi1 (.lst h1 h2) ki_list_list ?_)
    walk_at "di"
    refine br_nt rfl ?_
    refine wc_isi1 (.lst k1 k2) ki_list_tuple (wc_isi1 (.lst h1 h2) ki_list_tuple ?_)
    walk_at "di"
    refine br_nt rfl ?_
    have l1 := DpAll.len k2
    have l2 := DpAll.len h2
    refine wc_len_l k1 (wc_len_l h1 ?_)
    walk_at "di"
    refine br_t (by rw [l1, l2]) ⟨a, b, xs1, xs2, rfl, .inl ⟨k1, h1, fun D hD => ?_⟩⟩
    have hl : ds.length < 100000 := hf.1
    have hdd : PyData.depthAll ds + 1 < d + 1 := hd
    refine lq_it (walk_zip (n := ds.length) (by omega)) (fun i acc H' => SS (E1 Γ) (upd H T (.tup [.ty "list", .ty "tuple"])) [] H' [] [lstR D acc] ∧ acc = (List.replicate i true).map V.bl) ⟨SS.start0.newC (o := .lst []) hD (fun z => z), rfl⟩ (fun _ _ _ _ ⟨s, _⟩ => ⟨s.fr.sql k1 List.not_mem_nil, s.fr.sql h1 List.not_mem_nil⟩) ?_ ?_
    · rintro i x acc H1 H2 hi hl2 ⟨s, ha⟩ ⟨T3, u, v, rfl, hT3, rfl, hu, hv⟩
      refine gt_of (SqT.of upd_same) rfl ?_
      walk_at "dn"
      obtain ⟨dt1, e1, p1⟩ := DpAll.at_ k2 hu
      obtain ⟨dt2, e2, p2⟩ := DpAll.at_ h2 hv
      rw [e1] at e2
      cases e2
      have hm := List.mem_of_getElem? e1
      have sm := s.fr.same.trans (Same.mk (o := .tup [u, v]) hT3)
      refine ⟨rfl, u, v, dt1, rfl, Dp.same sm p1, Dp.same sm p2, by have := depthA_mem hm; omega, fewA_mem hf.2 hm, fun H3 s3 => ?_⟩
      have s4 := (s.same (Same.mk (o := .tup [u, v]) hT3)).same s3
      refine lq_add s4 hl2 (lt_size (by omega)) ⟨_, lq_len hl2, s4.app, ?_⟩
      rw [ha, List.replicate_succ', List.map_append]
      rfl
    · rintro acc H1 hl2 ⟨s, ha⟩
      subst ha
      refine wc_all (SqL.of (s.cell (.head _))) ?_
      rw [show (List.replicate ds.length true).all id = true from by simp]
      exact q _ (s1.trans s.fr.same)
  | @tup b xs2 ds h1 h2 =>
    cases hx with
    | @tup a xs1 _ k1 k2 =>
    refine wc_isi2 (.tup h1 h2) upd_same ki_tuple_list ki_tuple_tuple ?_
    show WC _ _ _ _ _
    refine wc_isi1 (.tup k1 k2) ki_tuple_list (wc_isi1 (.tup h1 h2) ki_tuple_list ?_)
    walk_at "di"
    refine br_nt rfl ?_
    refine wc_isi1 (.tup k1 k2) ki_tuple_tuple (wc_isi1 (.tup h1 h2) ki_tuple_tuple ?_)
    walk_at "di"
    refine br_nt rfl ?_
    have l1 := DpAll.len k2
    have l2 := DpAll.len h2
    refine wc_len_t k1 (wc_len_t h1 ?_)
    walk_at "di"
    refine br_t (by rw [l1, l2]) ⟨a, b, xs1, xs2, rfl, .inr ⟨k1, h1, fun D hD => ?_⟩⟩
    have hl : ds.length < 100000 := hf.1
    have hdd : PyData.depthAll ds + 1 < d + 1 := hd
    refine lq_it (walk_zipT (n := ds.length) (by omega)) (fun i acc H' => SS (E1 Γ) (upd H T (.tup [.ty "list", .ty "tuple"])) [] H' [] [lstR D acc] ∧ acc = (List.replicate i true).map V.bl) ⟨SS.start0.newC (o := .lst []) hD (fun z => z), rfl⟩ (fun _ _ _ _ ⟨s, _⟩ => ⟨s.fr.sqt k1 List.not_mem_nil, s.fr.sqt h1 List.not_mem_nil⟩) ?_ ?_
    · rintro i x acc H1 H2 hi hl2 ⟨s, ha⟩ ⟨T3, u, v, rfl, hT3, rfl, hu, hv⟩
      refine gt_of (SqT.of upd_same) rfl ?_
      walk_at "dn"
      obtain ⟨dt1, e1, p1⟩ := DpAll.at_ k2 hu
      obtain ⟨dt2, e2, p2⟩ := DpAll.at_ h2 hv
      rw [e1] at e2
      cases e2
      have hm := List.mem_of_getElem? e1
      have sm := s.fr.same.trans (Same.mk (o := .tup [u, v]) hT3)
      refine ⟨rfl, u, v, dt1, rfl, Dp.same sm p1, Dp.same sm p2, by have := depthA_mem hm; omega, fewA_mem hf.2 hm, fun H3 s3 => ?_⟩
      have s4 := (s.same (Same.mk (o := .tup [u, v]) hT3)).same s3
      refine lq_add s4 hl2 (lt_size (by omega)) ⟨_, lq_len hl2, s4.app, ?_⟩
      rw [ha, List.replicate_succ', List.map_append]
      rfl
    · rintro acc H1 hl2 ⟨s, ha⟩
      subst ha
      refine wc_all (SqL.of (s.cell (.head _))) ?_
      rw [show (List.replicate ds.length true).all id = true from by simp]
      exact q _ (s1.trans s.fr.same)
/-- a formula's symbols by the rules; 0: a single one, 1: behind guards or turns, 2 to 4: with signs, the loosest last -/
def sgI (asks : Bool) (n : Nat) : List Nat := sgA asks (4 - n)
def wdI (asks : Bool) (n : Nat) : Str := wdA asks (4 - n)
inductive Der : Bool → Nat → List (List Nat) → Tr → Prop where
  | here : Der false 0 [wd "here"] (.z "here")
  | step {k : Str} {d : Int} : Nm k → (d = 1 ∨ d = -1) → Der false 0 [(if 0 < d then 43 else 45) :: k.cps.toList] (.st k d)
  | par {a : Bool} {s : List (List Nat)} {t : Tr} : Der a 4 s t → Der a 0 ([wd "("] ++ s ++ [wd ")"]) t
  | always : Der true 0 [wd "always"] (.z "always")
  | marked {k : Str} : Nm k → Der true 0 [wd "marked", wd "(", k.cps.toList, wd ")"] (.mk k)
  | found {s : List (List Nat)} {t : Tr} : Der false 4 s t → Der true 0 ([wd "found", wd "("] ++ s ++ [wd ")"]) (.one "found" t)
  | same {s u : List (List Nat)} {t v : Tr} : Der false 4 s t → Der false 4 u v → Der true 0 ([wd "same", wd "("] ++ s ++ [wd ","] ++ u ++ [wd ")"]) (.two "same" t v)
  | up {a : Bool} {n : Nat} {s : List (List Nat)} {t : Tr} : Der a n s t → n < 4 → Der a (n + 1) s t
  | when {s u : List (List Nat)} {t v : Tr} : Der true 4 s t → Der false 1 u v → Der false 1 ([wd "["] ++ s ++ [wd "]"] ++ u) (.two "when" v t)
  | not {s : List (List Nat)} {t : Tr} : Der true 1 s t → Der true 1 ([wd "~"] ++ s) (.one "not" t)
  | bin {a : Bool} {n : Nat} {s u : List (List Nat)} {t v : Tr} : n < 3 → Der a (n + 2) s t → Der a (n + 1) u v → Der a (n + 2) (s ++ [sgI a (n + 2)] ++ u) (.two (wdI a (n + 2)) t v)
/-- how many brackets are opened -/
def opens (s : List (List Nat)) : Nat := s.countP fun x => decide (x = wd "(" ∨ x = wd "[")
theorem opens_app (a b : List (List Nat)) : opens (a ++ b) = opens a + opens b := List.countP_append
theorem Der.pos {a : Bool} {n : Nat} {s : List (List Nat)} {t : Tr} (h : Der a n s t) : ∃ x r, s = x :: r ∧ (n = 0 → x ≠ wd "[" ∧ x ≠ wd "~") ∧ x ≠ [] := by
  induction h with
  | here => exact ⟨_, _, rfl, fun _ => by decide +kernel, by decide +kernel⟩
  | @step k d hk hd =>
    refine ⟨_, _, rfl, fun _ => ?_, by simp⟩
    have hl : 0 < k.cps.toList.length := by have := hk.1; rw [Array.length_toList]; exact this
    have e1 : (wd "[").length = 1 := by decide +kernel
    have e2 : (wd "~").length = 1 := by decide +kernel
    refine ⟨fun z => ?_, fun z => ?_⟩
    · have := congrArg List.length z
      rw [List.length_cons, e1] at this
      omega
    · have := congrArg List.length z
      rw [List.length_cons, e2] at this
      omega
  | par _ _ => exact ⟨_, _, rfl, fun _ => by decide +kernel, by decide +kernel⟩
  | always => exact ⟨_, _, rfl, fun _ => by decide +kernel, by decide +kernel⟩
  | marked _ => exact ⟨_, _, rfl, fun _ => by decide +kernel, by decide +kernel⟩
  | found _ _ => exact ⟨_, _, rfl, fun _ => by decide +kernel, by decide +kernel⟩
  | same _ _ _ _ => exact ⟨_, _, rfl, fun _ => by decide +kernel, by decide +kernel⟩
  | up _ _ ih =>
    obtain ⟨x, r, e, _, h⟩ := ih
    exact ⟨x, r, e, (fun z => nomatch z), h⟩
  | when _ _ _ _ => exact ⟨_, _, rfl, fun z => (nomatch z), by decide +kernel⟩
  | not _ _ => exact ⟨_, _, rfl, fun z => (nomatch z), by decide +kernel⟩
  | bin _ _ _ ih _ =>
    obtain ⟨x, r, rfl, _, h⟩ := ih
    exact ⟨x, _, rfl, (fun z => nomatch z), h⟩
theorem hdS_map {l : List Sy} {x : List Nat} {r : List (List Nat)} (h : l.map Prod.fst = x :: r) : hdS l = x ∧ l.tail.map Prod.fst = r := by
  cases l with
  | nil => cases h
  | cons y l =>
    rw [List.map_cons] at h
    cases h
    exact ⟨rfl, rfl⟩
theorem hdS_of {l : List Sy} {r : List (List Nat)} (h : l.map Prod.fst = r) : hdS l = r.headD [] := by
  cases l with
  | nil => cases h; rfl
  | cons y l => cases h; rfl
/-- what is left does not go on with a tighter sign -/
def Nx (a : Bool) (n : Nat) (rest : List (List Nat)) : Prop := ∀ m, 2 ≤ m → m ≤ n → rest.headD [] ≠ sgI a m
theorem Nx.mono {a : Bool} {m n : Nat} {r : List (List Nat)} (h : Nx a n r) (k : m ≤ n) : Nx a m r := fun j h1 h2 => h j h1 (by omega)
theorem sgI_ne (a : Bool) (m n : Nat) (h : 2 ≤ m) (h2 : m < n) (h3 : n ≤ 4) : sgI a n ≠ sgI a m := by
  have : (m = 2 ∧ n = 3) ∨ (m = 2 ∧ n = 4) ∨ (m = 3 ∧ n = 4) := by omega
  rcases this with ⟨rfl, rfl⟩ | ⟨rfl, rfl⟩ | ⟨rfl, rfl⟩ <;> cases a <;> decide +kernel
theorem nx_close (a : Bool) (r : List (List Nat)) (x : String) (h : x = ")" ∨ x = "]" ∨ x = ",") : Nx a 4 (wd x :: r) := by
  intro m h1 h2
  show wd x ≠ sgI a m
  have : m = 2 ∨ m = 3 ∨ m = 4 := by omega
  rcases h with rfl | rfl | rfl <;> rcases this with rfl | rfl | rfl <;> cases a <;> decide +kernel
theorem nx_end (a : Bool) : Nx a 4 [[]] := by
  intro m h1 h2
  have : m = 2 ∨ m = 3 ∨ m = 4 := by omega
  rcases this with rfl | rfl | rfl <;> cases a <;> decide +kernel
def Pn (a : Bool) (s : List (List Nat)) (t : Tr) : Nat → Prop
  | 0 => ∀ (o : Nat) (l : List Sy) (rest : List (List Nat)), opens s ≤ o → l.map Prod.fst = s ++ rest → (if a = true then sgT (rd o) l else sgL (rd o) l) = some (.ok t (l.drop s.length))
  | 1 => ∀ (o : Nat) (l : List Sy) (rest : List (List Nat)) (m : Nat), opens s ≤ o → l.map Prod.fst = s ++ rest → s.length < m → ∀ (acc : List Tr) (c : Nat), (if a = true then tnR (rd o) m c l else gdR (rd o) m acc l) = some (.ok (if a = true then nots c t else whens acc t) (l.drop s.length))
  | n + 2 => ∀ (o : Nat) (l : List Sy) (rest : List (List Nat)), opens s ≤ o → l.map Prod.fst = s ++ rest → Nx a (n + 1) rest → ∃ m, (l.drop s.length).length < m ∧ rdK (rd o) a (n + 1) l = lpR (rdK (rd o) a n) (sgI a (n + 2)) (wdI a (n + 2)) m t (l.drop s.length)
theorem map_drop_app {l : List Sy} {s rest : List (List Nat)} (h : l.map Prod.fst = s ++ rest) : (l.drop s.length).map Prod.fst = rest := by
  rw [List.map_drop, h, List.drop_left]
theorem lpR_end {f : List Sy → Option Rs} {sg : List Nat} {w : Str} {m : Nat} {t : Tr} {l : List Sy} (hm : 0 < m) (h : hdS l ≠ sg) : lpR f sg w m t l = some (.ok t l) := by
  cases m with
  | zero => exact absurd hm (Nat.lt_irrefl _)
  | succ m => unfold lpR; rw [if_neg h]
/-- read wholly -/
theorem Pn.closed {a : Bool} {s : List (List Nat)} {t : Tr} {n : Nat} (h : Pn a s t (n + 1)) (hn : n ≤ 3) (o : Nat) (l : List Sy) (rest : List (List Nat)) (ho : opens s ≤ o) (hl : l.map Prod.fst = s ++ rest) (nx : Nx a (n + 1) rest) : rdK (rd o) a n l = some (.ok t (l.drop s.length)) := by
  cases n with
  | zero =>
    have hlen : s.length < l.length + 1 := by
      have := congrArg List.length hl
      rw [List.length_map, List.length_append] at this
      omega
    have := h o l rest (l.length + 1) ho hl hlen [] 0
    cases a with
    | true => exact this
    | false => exact this
  | succ n =>
    obtain ⟨m, hm, e⟩ := h o l rest ho hl (nx.mono (Nat.le_succ _))
    rw [e]
    refine lpR_end (by omega) ?_
    rw [hdS_of (map_drop_app hl)]
    exact nx (n + 2) (by omega) (Nat.le_refl _)
/-- within brackets -/
theorem Pn.inner {a : Bool} {s : List (List Nat)} {t : Tr} (h : Pn a s t 4) (o : Nat) (l : List Sy) (rest : List (List Nat)) (ho : opens s < o) (hl : l.map Prod.fst = s ++ rest) (nx : Nx a 4 rest) : rd o a l = some (.ok t (l.drop s.length)) := by
  cases o with
  | zero => exact absurd ho (Nat.not_lt_zero _)
  | succ o => exact Pn.closed (n := 3) h (Nat.le_refl _) o l rest (by omega) hl nx
theorem needR_ok {x : List Nat} {l : List Sy} {r : List (List Nat)} {k : List Sy → Option Rs} (h : l.map Prod.fst = x :: r) : needR x l k = k l.tail := by
  unfold needR
  rw [if_pos (hdS_map h).1]
theorem tail_drop {l : List Sy} (n : Nat) : (l.drop n).tail = l.drop (n + 1) := by rw [← List.drop_one, List.drop_drop]
theorem tail_drop1 {l : List Sy} (n : Nat) : (l.tail).drop n = l.drop (n + 1) := by rw [← List.drop_one, List.drop_drop, Nat.add_comm]
theorem bind_ok {t : Tr} {l : List Sy} {k : Tr → List Sy → Option Rs} : bindR (some (.ok t l)) k = k t l := rfl
theorem opens_1 (x : List Nat) (s : List (List Nat)) : opens (x :: s) = opens s + (if x = wd "(" ∨ x = wd "[" then 1 else 0) := by
  unfold opens
  rw [List.countP_cons]
  congr 1
  by_cases h : x = wd "(" ∨ x = wd "["
  · rw [if_pos h, if_pos (decide_eq_true h)]
  · rw [if_neg h, if_neg (by rw [decide_eq_false h]; decide)]
theorem der_reads {a : Bool} {n : Nat} {s : List (List Nat)} {t : Tr} (h : Der a n s t) : Pn a s t n := by
  induction h with
  | here =>
    intro o l rest ho hl
    rw [if_neg (by decide)]
    unfold sgL
    rw [if_pos (hdS_map hl).1]
    rw [← List.drop_one]
    rfl
  | @step k d hk hd =>
    intro o l rest ho hl
    rw [if_neg (by decide)]
    obtain ⟨h1, _⟩ := hdS_map hl
    have n1 : hdS l ≠ wd "here" := by
      rw [h1]
      intro z
      have := congrArg List.head? z
      rw [show (wd "here").head? = some 104 from by decide +kernel] at this
      simp only [List.head?_cons, Option.some.injEq] at this
      split at this <;> omega
    have n2 : hdS l ≠ wd "(" := by
      rw [h1]
      intro z
      have := congrArg List.head? z
      rw [show (wd "(").head? = some 40 from by decide +kernel] at this
      simp only [List.head?_cons, Option.some.injEq] at this
      split at this <;> omega
    unfold sgL
    rw [if_neg n1, if_neg n2, h1]
    rcases hd with rfl | rfl
    · rw [if_pos (by left; rfl)]
      show some (Rs.ok (.st (tx k.cps.toList) 1) l.tail) = _
      rw [tx_of, ← List.drop_one]
      rfl
    · rw [if_pos (by right; rfl)]
      show some (Rs.ok (.st (tx k.cps.toList) (-1)) l.tail) = _
      rw [tx_of, ← List.drop_one]
      rfl
  | @par a s t _ ih =>
    intro o l rest ho hl
    have e0 : [wd "("] ++ s ++ [wd ")"] ++ rest = wd "(" :: (s ++ (wd ")" :: rest)) := by simp
    rw [e0] at hl
    obtain ⟨h1, h2⟩ := hdS_map hl
    rw [List.append_assoc, List.singleton_append, opens_1, if_pos (.inl rfl), opens_app] at ho
    have r1 := Pn.inner ih o l.tail (wd ")" :: rest) (by omega) h2 (nx_close a rest ")" (.inl rfl))
    have h3 := map_drop_app h2
    have e1 : ([wd "("] ++ s ++ [wd ")"]).length = s.length + 1 + 1 := by simp
    cases a with
    | false =>
      rw [if_neg (by decide)]
      unfold sgL
      rw [if_neg (by rw [h1]; decide +kernel), if_pos h1, r1]
      rw [bind_ok, needR_ok h3, tail_drop1, tail_drop, e1]
    | true =>
      rw [if_pos rfl]
      unfold sgT
      rw [if_neg (by rw [h1]; decide +kernel), if_pos h1, r1]
      rw [bind_ok, needR_ok h3, tail_drop1, tail_drop, e1]
  | always =>
    intro o l rest ho hl
    rw [if_pos rfl]
    unfold sgT
    rw [if_pos (hdS_map hl).1]
    rw [← List.drop_one]
    rfl
  | @marked k hk =>
    intro o l rest ho hl
    rw [if_pos rfl]
    obtain ⟨h1, h2⟩ := hdS_map (x := wd "marked") (r := wd "(" :: k.cps.toList :: wd ")" :: rest) hl
    obtain ⟨h3, h4⟩ := hdS_map h2
    obtain ⟨h5, h6⟩ := hdS_map h4
    have hn : nmB k.cps.toList = true := by
      unfold nmB
      have hl : k.cps.toList.length = k.length := by rw [Array.length_toList]; rfl
      rw [hl, decide_eq_true ⟨hk.1, hk.2.1⟩, Bool.true_and, List.all_eq_true]
      exact fun c hc => decide_eq_true (hk.2.2 c hc)
    unfold sgT
    rw [if_neg (by rw [h1]; decide +kernel), if_neg (by rw [h1]; decide +kernel), if_pos h1, needR_ok h2, if_pos (by rw [h5]; exact hn), needR_ok h6, h5, tx_of]
    rw [← List.drop_one, ← List.drop_one, ← List.drop_one, ← List.drop_one, List.drop_drop, List.drop_drop, List.drop_drop]
    rfl
  | @found s t _ ih =>
    intro o l rest ho hl
    rw [if_pos rfl]
    have e0 : [wd "found", wd "("] ++ s ++ [wd ")"] ++ rest = wd "found" :: wd "(" :: (s ++ (wd ")" :: rest)) := by simp
    rw [e0] at hl
    obtain ⟨h1, h2⟩ := hdS_map hl
    obtain ⟨h3, h4⟩ := hdS_map h2
    have e2 : [wd "found", wd "("] ++ s ++ [wd ")"] = wd "found" :: wd "(" :: (s ++ [wd ")"]) := by simp
    rw [e2, opens_1, opens_1, if_pos (.inl rfl), opens_app] at ho
    have r1 := Pn.inner ih o l.tail.tail (wd ")" :: rest) (by omega) h4 (nx_close false rest ")" (.inl rfl))
    have h5 := map_drop_app h4
    unfold sgT
    rw [if_neg (by rw [h1]; decide +kernel), if_neg (by rw [h1]; decide +kernel), if_neg (by rw [h1]; decide +kernel), if_pos h1, needR_ok h2, r1]
    rw [bind_ok, needR_ok h5, tail_drop1, tail_drop1, tail_drop]
    have e1 : ([wd "found", wd "("] ++ s ++ [wd ")"]).length = s.length + 1 + 1 + 1 := by simp
    rw [e1]
  | @same s u t v _ _ ih1 ih2 =>
    intro o l rest ho hl
    rw [if_pos rfl]
    have e0 : [wd "same", wd "("] ++ s ++ [wd ","] ++ u ++ [wd ")"] ++ rest = wd "same" :: wd "(" :: (s ++ (wd "," :: (u ++ (wd ")" :: rest)))) := by simp
    rw [e0] at hl
    obtain ⟨h1, h2⟩ := hdS_map hl
    obtain ⟨h3, h4⟩ := hdS_map h2
    have e2 : [wd "same", wd "("] ++ s ++ [wd ","] ++ u ++ [wd ")"] = wd "same" :: wd "(" :: (s ++ (wd "," :: (u ++ [wd ")"]))) := by simp
    rw [e2, opens_1, opens_1, if_pos (.inl rfl), opens_app, opens_1, opens_app] at ho
    have r1 := Pn.inner ih1 o l.tail.tail (wd "," :: (u ++ (wd ")" :: rest))) (by omega) h4 (nx_close false _ "," (.inr (.inr rfl)))
    have h5 := map_drop_app h4
    obtain ⟨h6, h7⟩ := hdS_map h5
    have r2 := Pn.inner ih2 o (l.tail.tail.drop s.length).tail (wd ")" :: rest) (by omega) h7 (nx_close false rest ")" (.inl rfl))
    have h8 := map_drop_app h7
    unfold sgT
    rw [if_neg (by rw [h1]; decide +kernel), if_neg (by rw [h1]; decide +kernel), if_neg (by rw [h1]; decide +kernel), if_neg (by rw [h1]; decide +kernel), if_pos h1, needR_ok h2, r1]
    rw [bind_ok, needR_ok h5, r2]
    rw [bind_ok, needR_ok h8, tail_drop1, tail_drop1, tail_drop, List.drop_drop, tail_drop1]
    have e1 : ([wd "same", wd "("] ++ s ++ [wd ","] ++ u ++ [wd ")"]).length = s.length + 1 + (u.length + 1 + 1) + 1 := by simp only [List.length_append, List.length_cons, List.length_nil]; omega
    rw [e1]
  | @up a n s t hd hn ih =>
    cases n with
    | zero =>
      intro o l rest m ho hl hm acc c
      obtain ⟨x, r, rfl, hx, hx0⟩ := hd.pos
      obtain ⟨h1, _⟩ := hdS_map (x := x) (r := r ++ rest) hl
      obtain ⟨n1, n2⟩ := hx rfl
      have r1 := ih o l rest ho hl
      cases m with
      | zero => exact absurd hm (Nat.not_lt_zero _)
      | succ m =>
        cases a with
        | true =>
          rw [if_pos rfl] at r1 ⊢
          rw [if_pos rfl]
          unfold tnR
          rw [if_neg (by rw [h1]; exact n2), r1]
          rfl
        | false =>
          rw [if_neg (by decide)] at r1 ⊢
          rw [if_neg (by decide)]
          unfold gdR
          rw [if_neg (by rw [h1]; exact n1), r1]
          rfl
    | succ n =>
      intro o l rest ho hl nx
      refine ⟨(l.drop s.length).length + 1, Nat.lt_succ_self _, ?_⟩
      have r1 := Pn.closed (n := n) ih (by omega) o l rest ho hl nx
      show levR (rdK (rd o) a n) (sgA a (2 - n)) (wdA a (2 - n)) l = _
      unfold levR
      rw [r1]
      show lpR _ _ _ _ _ _ = _
      unfold sgI wdI
      rw [show 4 - (n + 2) = 2 - n from by omega]
  | @when s u t v _ _ ih1 ih2 =>
    intro o l rest m ho hl hm acc c
    rw [if_neg (by decide), if_neg (by decide)]
    have e0 : [wd "["] ++ s ++ [wd "]"] ++ u ++ rest = wd "[" :: (s ++ (wd "]" :: (u ++ rest))) := by simp
    have e2 : [wd "["] ++ s ++ [wd "]"] ++ u = wd "[" :: (s ++ (wd "]" :: u)) := by simp
    rw [e0] at hl
    rw [e2, opens_1, if_pos (.inr rfl), opens_app, opens_1] at ho
    obtain ⟨h1, h2⟩ := hdS_map hl
    have r1 := Pn.inner ih1 o l.tail (wd "]" :: (u ++ rest)) (by omega) h2 (nx_close true _ "]" (.inr (.inl rfl)))
    have h3 := map_drop_app h2
    obtain ⟨h4, h5⟩ := hdS_map h3
    have e1 : ([wd "["] ++ s ++ [wd "]"] ++ u).length = s.length + 1 + 1 + u.length := by simp only [List.length_append, List.length_cons, List.length_nil]; omega
    rw [e1] at hm ⊢
    cases m with
    | zero => exact absurd hm (Nat.not_lt_zero _)
    | succ m =>
      unfold gdR
      rw [if_pos h1, r1]
      rw [bind_ok, needR_ok h3]
      have r2 := ih2 o ((l.tail.drop s.length).tail) rest m (by omega) h5 (by omega) (acc ++ [t]) c
      rw [if_neg (by decide), if_neg (by decide)] at r2
      rw [r2, whens_snoc, tail_drop1, tail_drop1, List.drop_drop, show s.length + 1 + (u.length + 1) = s.length + 1 + 1 + u.length from by omega]
  | @not s t _ ih =>
    intro o l rest m ho hl hm acc c
    rw [if_pos rfl, if_pos rfl]
    obtain ⟨h1, h2⟩ := hdS_map (x := wd "~") (r := s ++ rest) hl
    rw [List.singleton_append, opens_1] at ho
    rw [List.singleton_append, List.length_cons] at hm ⊢
    cases m with
    | zero => exact absurd hm (Nat.not_lt_zero _)
    | succ m =>
      unfold tnR
      rw [if_pos h1]
      have r2 := ih o l.tail rest m (by omega) h2 (by omega) acc (c + 1)
      rw [if_pos rfl, if_pos rfl] at r2
      rw [r2, tail_drop1, nots_s]
  | @bin a n s u t v hn _ _ ih1 ih2 =>
    intro o l rest ho hl nx
    have e0 : s ++ [sgI a (n + 2)] ++ u ++ rest = s ++ (sgI a (n + 2) :: (u ++ rest)) := by simp
    have e2 : s ++ [sgI a (n + 2)] ++ u = s ++ (sgI a (n + 2) :: u) := by simp
    have e1 : (s ++ [sgI a (n + 2)] ++ u).length = s.length + 1 + u.length := by simp only [List.length_append, List.length_cons, List.length_nil]
    rw [e0] at hl
    rw [e2, opens_app, opens_1] at ho
    obtain ⟨m, hm, r1⟩ := ih1 o l _ (by omega) hl (fun j h1 h2 => sgI_ne a j (n + 2) h1 (by omega) (by omega))
    have h3 := map_drop_app hl
    obtain ⟨h4, h5⟩ := hdS_map h3
    have r2 := Pn.closed (n := n) ih2 (by omega) o (l.drop s.length).tail rest (by omega) h5 nx
    rw [e1]
    have hlen : (l.drop s.length).length = 1 + u.length + rest.length := by
      have := congrArg List.length h3
      rw [List.length_map, List.length_cons, List.length_append] at this
      omega
    cases m with
    | zero => exact absurd hm (Nat.not_lt_zero _)
    | succ m =>
      refine ⟨m, ?_, ?_⟩
      · rw [List.length_drop] at hlen hm ⊢
        omega
      · rw [r1]
        conv => lhs; unfold lpR
        rw [if_pos h4, r2]
        show lpR _ _ _ _ _ _ = _
        rw [tail_drop, List.drop_drop]
def spRank (K : PySem.W.Frag) : Sp := fun vs H Q _ => ∃ (p : Addr) (t : Tr) (asks : Bool), vs = [.ref p, .bl asks] ∧ TrP K H t p ∧ ∀ H', Same H H' → Q (.int (rnkW asks t.word : Nat)) H'
/-- the place of a word in a list of three -/
theorem rnk_f (w : Str) : rnkW false w = if w = Str.ofString "or" then 0 else if w = Str.ofString "and" then 1 else if w = Str.ofString "then" then 2 else 3 := rfl
theorem rnk_t (w : Str) : rnkW true w = if w = Str.ofString "or" then 0 else if w = Str.ofString "xor" then 1 else if w = Str.ofString "and" then 2 else 3 := rfl
/-- the place of a word in a list of three -/
theorem three_at {a b c w : Str} (hb : b ≠ a) (hc : c ≠ a) (hd : c ≠ b) : ((if w = a then 0 else if w = b then 1 else if w = c then 2 else 3) = 3 ∧ w ∉ [a, b, c]) ∨ ∃ j, (if w = a then 0 else if w = b then 1 else if w = c then 2 else 3) = j ∧ j < 3 ∧ [a, b, c][j]? = some w ∧ ∀ m, m < j → [a, b, c][m]? ≠ some w := by
  by_cases h1 : w = a
  · subst h1
    rw [if_pos rfl]
    exact .inr ⟨0, rfl, by decide, rfl, fun m h => absurd h (Nat.not_lt_zero _)⟩
  by_cases h2 : w = b
  · subst h2
    rw [if_neg h1, if_pos rfl]
    refine .inr ⟨1, rfl, by decide, rfl, fun m h => ?_⟩
    obtain rfl : m = 0 := by omega
    exact fun z => h1 (Option.some.inj z).symm
  by_cases h3 : w = c
  · subst h3
    rw [if_neg h1, if_neg h2, if_pos rfl]
    refine .inr ⟨2, rfl, by decide, rfl, fun m h => ?_⟩
    rcases (show m = 0 ∨ m = 1 by omega) with rfl | rfl
    · exact fun z => h1 (Option.some.inj z).symm
    · exact fun z => h2 (Option.some.inj z).symm
  · rw [if_neg h1, if_neg h2, if_neg h3]
    exact .inl ⟨rfl, by simp [h1, h2, h3]⟩
theorem rnk_at (asks : Bool) (w : Str) : (rnkW asks w = 3 ∧ w ∉ (if asks = true then twords else lwords)) ∨ ∃ j, rnkW asks w = j ∧ j < 3 ∧ (if asks = true then twords else lwords)[j]? = some w ∧ ∀ m, m < j → (if asks = true then twords else lwords)[m]? ≠ some w := by
  cases asks with
  | false => rw [rnk_f]; exact three_at (by decide +kernel) (by decide +kernel) (by decide +kernel)
  | true => rw [rnk_t]; exact three_at (by decide +kernel) (by decide +kernel) (by decide +kernel)
/-- x.index(w) of a list of texts -/
theorem idx_s {K : PySem.W.Frag} {l : Addr} {ys : List Str} {w : Str} {j : Nat} {H : Hp} {Q : VK} (h : H l = some (.lst (ys.map V.str))) (h1 : ys[j]? = some w) (h2 : ∀ m, m < j → ys[m]? ≠ some w) (q : Q (.int (j : Nat)) H) : rIndex K (.ref l) [.str w] H Q := by
  refine ⟨l, ys.map V.str, .str w, j, .str w, rfl, rfl, SqL.of h, rfl, ?_, by rw [List.getElem?_map, h1]; rfl, ?_, fun m z hm hz => ?_, q⟩
  · rw [List.all_map]
    exact List.all_eq_true.mpr fun _ _ => rfl
  · show (w == w) = true
    exact beq_self_eq_true w
  · rw [List.getElem?_map] at hz
    obtain ⟨y, hy, rfl⟩ := Option.map_eq_some_iff.mp hz
    show (y == w) = false
    exact beq_eq_false_iff_ne.mpr fun e => h2 m hm (by rw [hy, e])
abbrev s_rank : Stmt := topS 44
abbrev n_rank : List Str := ["_law_tree", "_law_asks", "_law_words_so"]
theorem sc_rank : FnScope n_rank ["_law_tree", "_law_asks"] (defScope s_rank) := ⟨rfl, rfl, rfl, by decide +kernel, rfl, by decide +kernel, by decide +kernel⟩
theorem nm_rank : nvB n_rank (defScope s_rank) 0 "_law_tree" = true ∧ nvB n_rank (defScope s_rank) 1 "_law_asks" = true ∧ nvB n_rank (defScope s_rank) 2 "_law_words_so" = true ∧ lvB n_rank (defScope s_rank) 2 "_law_words_so" = true := by decide +kernel
theorem cl_rank {Γ : Gm} (dfn : Dfn Γ "_law_rank" s_rank ["_law_tree", "_law_asks"]) (T : Names Γ) : Cl Γ CX0 (1) "_law_rank" (spRank Γ.K) [] := by
  refine dfn.cl sc_rank (fun vs H Q E h => ?_) (fun f cdv A outer s H vs Q E hg h => ?_)
  · obtain ⟨p, t, asks, rfl, _⟩ := h
    rfl
  obtain ⟨p, t, asks, rfl, ht, q⟩ := h
  have nd := sc_rank.nd
  obtain ⟨v0, v1, v2, l2⟩ := nm_rank
  refine ⟨_, (pss_cons (pst (i := 2) nd l2 (pe_ifB (pt_tr hg (ps 1 v1)) (pe_lst (pa_cons pe_str (pa_cons pe_str (pa_cons pe_str pa_nil)))) (pe_lst (pa_cons pe_str (pa_cons pe_str (pa_cons pe_str pa_nil))))))
    (pss_one (ps_ret (pe_ifB (pt_cm (WO.ok hg) (pe_ix (WX.ok hg) (ps 0 v0) pe_int (fun _ _ => rfl)) (ps 2 v2) (by with_unfolding_all rfl)) (pe_bmK hg PySem.F.plainAttrs_list PySem.F.slot_list_index PySem.F.type_list_index mt_index (ps 2 v2) (pa_cons (pe_ix (WX.ok hg) (ps 0 v0) pe_int (fun _ _ => rfl)) pa_nil)) pe_int)))), ?_⟩
  refine st_start (σ := [some _, some _, none]) rfl ?_
  walk_at "dn"
  obtain ⟨r, hx, _, _⟩ := ht.rest
  have fin : ∀ {ys : List Str} (l : Addr), H l = none → ((rnkW asks t.word = 3 ∧ t.word ∉ ys) ∨ ∃ j, rnkW asks t.word = j ∧ j < 3 ∧ ys[j]? = some t.word ∧ ∀ m, m < j → ys[m]? ≠ some t.word) →
    G.WX (Γ.at 0) (V.ref p) (V.int 0) (upd H l (.lst (ys.map V.str))) fun x H1 => WO (Γ.at 0) (compareOp CmpOp.In) x (V.ref l) H1 fun x H' => asB x fun k => br k (tyV Γ.K "list" (V.ref l) H' ∧ G.WX (Γ.at 0) (V.ref p) (V.int 0) H' fun x H1 => rIndex Γ.K (V.ref l) [x] H1 Q) (Q (V.int 3) H') := by
    intro ys l hn h
    have s1 := Same.mk (o := .lst (ys.map V.str)) hn
    have hx1 := (Fr.of (S := []) s1).sqt hx List.not_mem_nil
    refine wx_t hx1 (v := .str t.word) (atG (j := 0) rfl rfl) ?_
    refine wo_inS (xs := ys) (.inl (SqL.of upd_same)) ?_
    have q1 := q _ s1
    rcases h with ⟨h1, h2⟩ | ⟨j, h1, h2, h3, h4⟩
    · rw [h1] at q1
      exact br_f h2 q1
    · rw [h1] at q1
      refine br_t (List.mem_of_getElem? h3) ⟨ty_l (SqL.of upd_same), ?_⟩
      exact wx_t hx1 (v := .str t.word) (atG (j := 0) rfl rfl) (idx_s upd_same h3 h4 q1)
  have hr := rnk_at asks t.word
  cases asks with
  | false => exact ⟨szl (by simp only [List.length_cons, List.length_nil]; omega), fun l hn => fin (ys := lwords) l hn hr⟩
  | true => exact ⟨szl (by simp only [List.length_cons, List.length_nil]; omega), fun l hn => fin (ys := twords) l hn hr⟩
/-- the measure of a call of _law_symbols -/
def syM (asks : Bool) (least : Nat) (t : Tr) : Nat := 2 * t.dep + (if rnkW asks t.word < least then 1 else 0)
def sL (ss : List (List Nat)) : List V := ss.map fun s => V.str (tx s)
theorem lit1 (s : String) : [V.str (Str.ofString s)] = sL [wd s] := by rw [ofs]; rfl
theorem lit2 (s u : String) : [V.str (Str.ofString s), V.str (Str.ofString u)] = sL [wd s, wd u] := by rw [ofs s, ofs u]; rfl
theorem tok_0 (asks : Bool) (t : Tr) : tok asks 0 t = tokB t asks := rfl
theorem oadd_sl {Γ : Gm} {A B : List (List Nat)} {pa pb : Addr} {H : Hp} {Q : VK} (ha : H pa = some (.lst (sL A))) (hb : H pb = some (.lst (sL B))) (hz : A.length + B.length < 90000) (q : ∀ p, H p = none → Q (.ref p) (upd H p (.lst (sL (A ++ B))))) : oAdd Γ (.ref pa) (.ref pb) H Q :=
  wo_cat ha hb (szl (by unfold sL; rw [List.length_map, List.length_map]; omega)) fun p hp => by
    have := q p hp
    unfold sL at this ⊢
    rw [← List.map_append]
    exact this
def spLSym (K : PySem.W.Frag) (n : Nat) : Sp := fun vs H Q _ => ∃ (p : Addr) (t : Tr) (ks ms : List Str) (asks : Bool) (least : Nat), vs = [.ref p, .bl asks, .int least] ∧ TrP K H t p ∧ t.wf ks ms asks ∧ (∀ k ∈ ks, Nm k) ∧ syM asks least t ≤ n ∧ least ≤ 3 ∧ (tok asks least t).length < 50000 ∧
  ∀ l H', H l = none → Same H H' → H' l = some (.lst ((tok asks least t).map fun s => V.str (tx s))) → Q (.ref l) H'
abbrev s_lsym : Stmt := topS 45
abbrev n_lsym : List Str := ["_law_tree", "_law_asks", "_law_least", "_law_rank_here", "_law_word", "_law_front", "_law_sign"]
theorem sc_lsym : FnScope n_lsym ["_law_tree", "_law_asks", "_law_least"] (defScope s_lsym) := ⟨rfl, rfl, rfl, by decide +kernel, rfl, by decide +kernel, by decide +kernel⟩
theorem nm_lsym : nvB n_lsym (defScope s_lsym) 0 "_law_tree" = true ∧ nvB n_lsym (defScope s_lsym) 1 "_law_asks" = true ∧ nvB n_lsym (defScope s_lsym) 2 "_law_least" = true ∧ nvB n_lsym (defScope s_lsym) 3 "_law_rank_here" = true ∧ nvB n_lsym (defScope s_lsym) 4 "_law_word" = true ∧ nvB n_lsym (defScope s_lsym) 5 "_law_front" = true ∧ nvB n_lsym (defScope s_lsym) 6 "_law_sign" = true ∧ lvB n_lsym (defScope s_lsym) 5 "_law_front" = true ∧ lvB n_lsym (defScope s_lsym) 6 "_law_sign" = true ∧ gvB (defScope s_lsym) "_law_rank" = true ∧ gvB (defScope s_lsym) "_law_symbols" = true := by decide +kernel
theorem cl_lsym {Γ : Gm} (dfn : Dfn Γ "_law_symbols" s_lsym ["_law_tree", "_law_asks", "_law_least"]) (T : Names Γ) {n : Nat} (c_law_rank : Cl Γ CX0 1 "_law_rank" (spRank Γ.K) []) (c_law_symbols : Cl Γ CX0 (n + 2) "_law_symbols" (spLSym Γ.K n) []) : Cl Γ CX0 (n + 3) "_law_symbols" (spLSym Γ.K (n + 1)) [] := by
  refine dfn.cl sc_lsym (fun vs H Q E h => ?_) (fun f cdv A outer s H vs Q E hg h => ?_)
  · obtain ⟨p, t, ks, ms, asks, least, rfl, _⟩ := h
    rfl
  obtain ⟨p, t, ks, ms, asks, least, rfl, ht, wf, hks, hm, hl, hz, q⟩ := h
  have nd := sc_lsym.nd
  obtain ⟨v0, v1, v2, v3, v4, v5, v6, l5, l6, g__law_rank, g__law_symbols⟩ := nm_lsym
  refine ⟨_, (pss_cons (ps_p2 (i := 3) (j := 4) rfl nd rfl rfl (by decide) rfl rfl (pa_cons (pcl c_law_rank hg (by omega) g__law_rank pass0 (pa_cons (ps 0 v0) (pa_cons (ps 1 v1) pa_nil))) (pa_cons (pe_ix (WX.ok hg) (ps 0 v0) pe_int (fun _ _ => rfl)) pa_nil)) (by rfl))
    (pss_cons (ps_ifB (pt_cm (k_lt hg) (ps 3 v3) (ps 2 v2) (nomark _))
    (pss_one (ps_ret (pe_op (k_add hg) (pe_op (k_add hg) (pe_lst (pa_cons pe_str pa_nil)) (pcl c_law_symbols hg (by omega) g__law_symbols pass0 (pa_cons (ps 0 v0) (pa_cons (ps 1 v1) (pa_cons pe_int pa_nil))))) (pe_lst (pa_cons pe_str pa_nil)))))
    pss_nil)
    (pss_cons (ps_ifB (PW.pt (pw_orB (pt_cm (k_eq hg) (ps 4 v4) pe_str (nomark _)) (pw_or1 (pt_cm (k_eq hg) (ps 4 v4) pe_str (nomark _)))))
    (pss_one (ps_ret (pe_lst (pa_cons (ps 4 v4) pa_nil))))
    pss_nil)
    (pss_cons (ps_ifB (pt_cm (k_eq hg) (ps 4 v4) pe_str (nomark _))
    (pss_one (ps_ret (pe_lst (pa_cons (pe_op (k_add hg) (pe_ifB (pt_cm (k_gt hg) (pe_ix (WX.ok hg) (ps 0 v0) pe_int (fun _ _ => rfl)) pe_int (nomark _)) pe_str pe_str) (pe_ix (WX.ok hg) (ps 0 v0) pe_int (fun _ _ => rfl))) pa_nil))))
    pss_nil)
    (pss_cons (ps_ifB (pt_cm (k_eq hg) (ps 4 v4) pe_str (nomark _))
    (pss_one (ps_ret (pe_lst (pa_cons pe_str (pa_cons pe_str (pa_cons (pe_ix (WX.ok hg) (ps 0 v0) pe_int (fun _ _ => rfl)) (pa_cons pe_str pa_nil)))))))
    pss_nil)
    (pss_cons (ps_ifB (pt_cm (k_eq hg) (ps 4 v4) pe_str (nomark _))
    (pss_one (ps_ret (pe_op (k_add hg) (pe_op (k_add hg) (pe_lst (pa_cons pe_str (pa_cons pe_str pa_nil))) (pcl c_law_symbols hg (by omega) g__law_symbols pass0 (pa_cons (pe_ix (WX.ok hg) (ps 0 v0) pe_int (fun _ _ => rfl)) (pa_cons pe_bl (pa_cons pe_int pa_nil))))) (pe_lst (pa_cons pe_str pa_nil)))))
    pss_nil)
    (pss_cons (ps_ifB (pt_cm (k_eq hg) (ps 4 v4) pe_str (nomark _))
    (pss_cons (pst (i := 5) nd l5 (pe_op (k_add hg) (pe_op (k_add hg) (pe_lst (pa_cons pe_str (pa_cons pe_str pa_nil))) (pcl c_law_symbols hg (by omega) g__law_symbols pass0 (pa_cons (pe_ix (WX.ok hg) (ps 0 v0) pe_int (fun _ _ => rfl)) (pa_cons pe_bl (pa_cons pe_int pa_nil))))) (pe_lst (pa_cons pe_str pa_nil))))
    (pss_one (ps_ret (pe_op (k_add hg) (pe_op (k_add hg) (ps 5 v5) (pcl c_law_symbols hg (by omega) g__law_symbols pass0 (pa_cons (pe_ix (WX.ok hg) (ps 0 v0) pe_int (fun _ _ => rfl)) (pa_cons pe_bl (pa_cons pe_int pa_nil))))) (pe_lst (pa_cons pe_str pa_nil))))))
    pss_nil)
    (pss_cons (ps_ifB (pt_cm (k_eq hg) (ps 4 v4) pe_str (nomark _))
    (pss_one (ps_ret (pe_op (k_add hg) (pe_op (k_add hg) (pe_op (k_add hg) (pe_lst (pa_cons pe_str pa_nil)) (pcl c_law_symbols hg (by omega) g__law_symbols pass0 (pa_cons (pe_ix (WX.ok hg) (ps 0 v0) pe_int (fun _ _ => rfl)) (pa_cons pe_bl (pa_cons pe_int pa_nil))))) (pe_lst (pa_cons pe_str pa_nil))) (pcl c_law_symbols hg (by omega) g__law_symbols pass0 (pa_cons (pe_ix (WX.ok hg) (ps 0 v0) pe_int (fun _ _ => rfl)) (pa_cons pe_bl (pa_cons pe_int pa_nil)))))))
    pss_nil)
    (pss_cons (ps_ifB (pt_cm (k_eq hg) (ps 4 v4) pe_str (nomark _))
    (pss_one (ps_ret (pe_op (k_add hg) (pe_lst (pa_cons pe_str pa_nil)) (pcl c_law_symbols hg (by omega) g__law_symbols pass0 (pa_cons (pe_ix (WX.ok hg) (ps 0 v0) pe_int (fun _ _ => rfl)) (pa_cons pe_bl (pa_cons pe_int pa_nil)))))))
    pss_nil)
    (pss_cons (pst (i := 6) nd l6 (pe_ix (WX.ok hg) (pe_lst (pa_cons pe_str (pa_cons pe_str (pa_cons pe_str (pa_cons pe_str pa_nil))))) (pe_bmK hg PySem.F.plainAttrs_list PySem.F.slot_list_index PySem.F.type_list_index mt_index (pe_lst (pa_cons pe_str (pa_cons pe_str (pa_cons pe_str (pa_cons pe_str pa_nil))))) (pa_cons (ps 4 v4) pa_nil)) (fun _ _ => rfl)))
    (pss_one (ps_ret (pe_op (k_add hg) (pe_op (k_add hg) (pcl c_law_symbols hg (by omega) g__law_symbols pass0 (pa_cons (pe_ix (WX.ok hg) (ps 0 v0) pe_int (fun _ _ => rfl)) (pa_cons (ps 1 v1) (pa_cons (ps 3 v3) pa_nil)))) (pe_lst (pa_cons (ps 6 v6) pa_nil))) (pcl c_law_symbols hg (by omega) g__law_symbols pass0 (pa_cons (pe_ix (WX.ok hg) (ps 0 v0) pe_int (fun _ _ => rfl)) (pa_cons (ps 1 v1) (pa_cons (pe_op (k_add hg) (ps 3 v3) pe_int) pa_nil))))))))))))))))), ?_⟩
  refine st_start (σ := [some _, some _, some _, none, none, none, none]) rfl ?_
  walk_at "dn"
  have hsub : ∀ (a2 : Bool) (l2 : Nat) (u : Tr), u.dep < t.dep → syM a2 l2 u ≤ n := fun a2 l2 u h => by
    unfold syM at hm ⊢
    split <;> omega
  refine ⟨p, t, asks, rfl, ht, fun H1 s1 => ?_⟩
  have sq : ∀ {H' : Hp} {p : Addr} {xs : List V}, Same H H' → SqT Γ.K H p xs → SqT Γ.K H' p xs := fun s h => (Fr.of (S := []) s).sqt h List.not_mem_nil
  obtain ⟨r0, hx, _, _⟩ := ht.rest
  refine wx_t (sq s1 hx) (v := .str t.word) (atG (j := 0) rfl rfl) ?_
  walk_at "di"
  refine br_d (fun h => ?_) (fun h => ?_)
  · have h : rnkW asks t.word < least := Int.ofNat_lt.mp h
    have et : tok asks least t = [wd "("] ++ tokB t asks ++ [wd ")"] := by unfold tok brk; rw [decide_eq_true h, if_pos rfl]
    rw [et] at q hz
    simp only [List.length_append, List.length_singleton] at hz
    have hm0 : syM asks 0 t ≤ n := by
      unfold syM at hm ⊢
      rw [if_pos h] at hm
      rw [if_neg (Nat.not_lt_zero _)]
      omega
    refine ⟨szl (by simp only [List.length_cons, List.length_nil]; omega), fun p1 hp1 => ?_⟩
    rw [lit1]
    have s2 := s1.trans (Same.mk (o := .lst (sL [wd "("])) hp1)
    refine ⟨p, t, ks, ms, asks, 0, rfl, ht.same s2, wf, hks, hm0, by omega, by rw [tok_0]; omega, fun l H3 hl0 s3 hl => ?_⟩
    rw [tok_0] at hl
    refine oadd_sl (s3 _ _ upd_same) hl (by simp only [List.length_singleton]; omega) fun p4 hp4 => ?_
    walk_at "di"
    refine ⟨szl (by simp only [List.length_cons, List.length_nil]; omega), fun p5 hp5 => ?_⟩
    rw [lit1]
    have s5 := (s2.trans s3).trans ((Same.mk (o := .lst (sL ([wd "("] ++ tokB t asks))) hp4).trans (Same.mk (o := .lst (sL [wd ")"])) hp5))
    refine oadd_sl (Same.mk hp5 _ _ upd_same) upd_same (by simp only [List.length_append, List.length_cons, List.length_singleton, List.length_nil, List.nil_append, List.cons_append]; omega) fun p6 hp6 => ?_
    exact q p6 _ (s5.free hp6) (s5.trans (Same.mk hp6)) upd_same
  have h : ¬ rnkW asks t.word < least := fun z => h (Int.ofNat_lt.mpr z)
  have et : tok asks least t = tokB t asks := by unfold tok brk; rw [decide_eq_false h]; rfl
  rw [et] at q hz
  -- a list that is written
  have lit : ∀ {H2 : Hp} (ss : List (List Nat)), Same H H2 → tokB t asks = ss → ∀ p1, H2 p1 = none → Q (V.ref p1) (upd H2 p1 (HO.lst (sL ss))) := fun ss s2 e p1 hp1 => by
    rw [e] at q
    exact q p1 _ (s2.free hp1) (s2.trans (Same.mk hp1)) upd_same
  cases t with
  | z w =>
    have ew : tokB (.z w) asks = [w.cps.toList] := rfl
    have l1 : [V.str (Tr.z w).word] = sL [w.cps.toList] := by
      show [V.str w] = [V.str (tx w.cps.toList)]
      rw [tx_of]
    have hw : w = Str.ofString "here" ∨ w = Str.ofString "always" := by
      cases asks with
      | false => exact .inl wf
      | true => exact .inr wf
    rw [l1]
    by_cases hh : (Tr.z w).word = Str.ofString "here"
    · exact br_t hh ⟨(by show 1 ≤ sizeLine; decide), lit _ s1 ew⟩
    · exact br_f hh (br_t (hw.resolve_left hh) ⟨(by show 1 ≤ sizeLine; decide), lit _ s1 ew⟩)
  | st k dd =>
    have hw : asks = false := by
      cases asks with
      | false => rfl
      | true => exact wf.elim
    subst hw
    refine br_f (show ¬ Str.ofString "step" = Str.ofString "here" by decide +kernel) (br_f (show ¬ Str.ofString "step" = Str.ofString "always" by decide +kernel) (br_t rfl ?_))
    refine wx_t (sq s1 ht) (v := .int dd) (atG (j := 2) rfl rfl) ?_
    walk_at "di"
    have hz2 : k.length < 50000 ∨ 50000 ≤ k.length := by omega
    have hk8 : k.cps.toList.length ≤ 8 := by
      rw [Array.length_toList]
      exact (hks k wf.1).2.1
    refine br_d (fun h => ?_) (fun h => ?_)
    · refine wx_t (sq s1 ht) (v := .str k) (atG (j := 1) rfl rfl) ?_
      rw [ofs "+", ← tx_of k]
      refine add_tx (by rw [show (wd "+").length = 1 from by decide +kernel]; omega) ?_
      refine ⟨szl (by simp only [List.length_cons, List.length_nil]; omega), fun p1 hp1 => ?_⟩
      refine lit [wd "+" ++ k.cps.toList] s1 ?_ p1 hp1
      show [(if 0 < dd then 43 else 45) :: k.cps.toList] = _
      rw [if_pos h, show wd "+" = [43] from by decide +kernel]
      rfl
    · refine wx_t (sq s1 ht) (v := .str k) (atG (j := 1) rfl rfl) ?_
      rw [ofs "-", ← tx_of k]
      refine add_tx (by rw [show (wd "-").length = 1 from by decide +kernel]; omega) ?_
      refine ⟨szl (by simp only [List.length_cons, List.length_nil]; omega), fun p1 hp1 => ?_⟩
      refine lit [wd "-" ++ k.cps.toList] s1 ?_ p1 hp1
      show [(if 0 < dd then 43 else 45) :: k.cps.toList] = _
      rw [if_neg h, show wd "-" = [45] from by decide +kernel]
      rfl
  | mk k =>
    have hw : asks = true := by
      cases asks with
      | true => rfl
      | false => exact wf.elim
    subst hw
    refine br_f (show ¬ Str.ofString "marked" = Str.ofString "here" by decide +kernel) (br_f (show ¬ Str.ofString "marked" = Str.ofString "always" by decide +kernel) (br_f (show ¬ Str.ofString "marked" = Str.ofString "step" by decide +kernel) (br_t rfl ?_)))
    refine wx_t (sq s1 ht) (v := .str k) (atG (j := 1) rfl rfl) ?_
    refine ⟨szl (by simp only [List.length_cons, List.length_nil]; omega), fun p1 hp1 => ?_⟩
    rw [ofs "marked", ofs "(", ofs ")", ← tx_of k]
    exact lit [wd "marked", wd "(", k.cps.toList, wd ")"] s1 rfl p1 hp1
  | one w a =>
    obtain ⟨pa, h1, h2⟩ := ht
    have da : a.dep < (Tr.one w a).dep := Nat.lt_succ_self _
    have hw : asks = true := by
      cases asks with
      | true => rfl
      | false => exact wf.elim
    subst hw
    rcases wf with ⟨e, ha⟩ | ⟨e, ha⟩
    · have e : w = Str.ofString "found" := e
      subst e
      have eB : tokB (.one (Str.ofString "found") a) true = [wd "found", wd "("] ++ tokB a false ++ [wd ")"] := by rw [tokB, if_pos rfl]
      rw [eB] at q hz
      simp only [List.length_append, List.length_cons, List.length_nil] at hz
      refine br_f (show ¬ Str.ofString "found" = Str.ofString "here" by decide +kernel) (br_f (show ¬ Str.ofString "found" = Str.ofString "always" by decide +kernel) (br_f (show ¬ Str.ofString "found" = Str.ofString "step" by decide +kernel) (br_f (show ¬ Str.ofString "found" = Str.ofString "marked" by decide +kernel) (br_t rfl ?_))))
      refine ⟨szl (by simp only [List.length_cons, List.length_nil]; omega), fun p1 hp1 => ?_⟩
      rw [lit2] at ⊢
      have s2 := s1.trans (Same.mk (o := .lst (sL [wd "found", wd "("])) hp1)
      refine wx_t (sq s2 h1) (v := .ref pa) (atG (j := 1) rfl rfl) ⟨pa, a, ks, ms, false, 0, rfl, h2.same s2, ha, hks, hsub _ _ _ da, by omega, by rw [tok_0]; omega, fun l H3 hl0 s3 hl => ?_⟩
      rw [tok_0] at hl
      refine oadd_sl (s3 _ _ upd_same) hl (by simp only [List.length_cons, List.length_nil]; omega) fun p4 hp4 => ?_
      walk_at "di"
      refine ⟨szl (by simp only [List.length_cons, List.length_nil]; omega), fun p5 hp5 => ?_⟩
      rw [lit1] at ⊢
      have s5 := (s2.trans s3).trans ((Same.mk (o := .lst (sL ([wd "found", wd "("] ++ tokB a false))) hp4).trans (Same.mk (o := .lst (sL [wd ")"])) hp5))
      refine oadd_sl (Same.mk hp5 _ _ upd_same) upd_same (by simp only [List.length_append, List.length_cons, List.length_nil]; omega) fun p6 hp6 => ?_
      exact q p6 _ (s5.free hp6) (s5.trans (Same.mk hp6)) upd_same
    · have e : w = Str.ofString "not" := e
      subst e
      have eB : tokB (.one (Str.ofString "not") a) true = [wd "~"] ++ tok true 3 a := by rw [tokB, if_neg (by decide +kernel)]; rfl
      rw [eB] at q hz
      simp only [List.length_append, List.length_cons, List.length_nil] at hz
      refine br_f (show ¬ Str.ofString "not" = Str.ofString "here" by decide +kernel) (br_f (show ¬ Str.ofString "not" = Str.ofString "always" by decide +kernel) (br_f (show ¬ Str.ofString "not" = Str.ofString "step" by decide +kernel) (br_f (show ¬ Str.ofString "not" = Str.ofString "marked" by decide +kernel) (br_f (show ¬ Str.ofString "not" = Str.ofString "found" by decide +kernel) (br_f (show ¬ Str.ofString "not" = Str.ofString "same" by decide +kernel) (br_f (show ¬ Str.ofString "not" = Str.ofString "when" by decide +kernel) (br_t rfl ?_)))))))
      refine ⟨szl (by simp only [List.length_cons, List.length_nil]; omega), fun p1 hp1 => ?_⟩
      rw [lit1] at ⊢
      have s2 := s1.trans (Same.mk (o := .lst (sL [wd "~"])) hp1)
      refine wx_t (sq s2 h1) (v := .ref pa) (atG (j := 1) rfl rfl) ⟨pa, a, ks, ms, true, 3, rfl, h2.same s2, ha, hks, hsub _ _ _ da, by omega, by omega, fun l H3 hl0 s3 hl => ?_⟩
      refine oadd_sl (s3 _ _ upd_same) hl (by simp only [List.length_cons, List.length_nil]; omega) fun p6 hp6 => ?_
      exact q p6 _ ((s2.trans s3).free hp6) ((s2.trans s3).trans (Same.mk hp6)) upd_same
  | two w a b =>
    obtain ⟨pa, pb, h1, h2, h3⟩ := ht
    have da : a.dep < (Tr.two w a b).dep := by show a.dep < max a.dep b.dep + 1; omega
    have db : b.dep < (Tr.two w a b).dep := by show b.dep < max a.dep b.dep + 1; omega
    have ws : w = Str.ofString "same" ∨ w = Str.ofString "when" ∨ (w = Str.ofString "then" ∨ w = Str.ofString "and" ∨ w = Str.ofString "or" ∨ w = Str.ofString "xor") := by
      cases asks with
      | false => rcases wf with ⟨e | e | e, _⟩ | ⟨e, _⟩ <;> (have e := e; simp [show w = _ from e])
      | true => rcases wf with ⟨e, _⟩ | ⟨e | e | e, _⟩ <;> (have e := e; simp [show w = _ from e])
    have nh : ¬ w = Str.ofString "here" ∧ ¬ w = Str.ofString "always" ∧ ¬ w = Str.ofString "step" ∧ ¬ w = Str.ofString "marked" ∧ ¬ w = Str.ofString "found" ∧ ¬ w = Str.ofString "not" := by
      rcases ws with rfl | rfl | rfl | rfl | rfl | rfl <;> decide +kernel
    refine br_f nh.1 (br_f nh.2.1 (br_f nh.2.2.1 (br_f nh.2.2.2.1 (br_f nh.2.2.2.2.1 (br_d (p := w = Str.ofString "same") (fun hs => ?_) (fun hs => br_d (p := w = Str.ofString "when") (fun hwn => ?_) (fun hwn => br_f nh.2.2.2.2.2 ?_)))))))
    · subst hs
      have eB : tokB (.two (Str.ofString "same") a b) asks = [wd "same", wd "("] ++ tokB a false ++ [wd ","] ++ tokB b false ++ [wd ")"] := by rw [tokB, if_pos rfl]
      rw [eB] at q hz
      simp only [List.length_append, List.length_cons, List.length_nil] at hz
      obtain ⟨ha, hb⟩ : a.wf ks ms false ∧ b.wf ks ms false := by
        cases asks with
        | false => rcases wf with ⟨e | e | e, _⟩ | ⟨e, _⟩ <;> exact absurd (show Str.ofString "same" = _ from e) (by decide +kernel)
        | true =>
          rcases wf with ⟨_, h⟩ | ⟨e | e | e, _⟩
          · exact h
          all_goals exact absurd (show Str.ofString "same" = _ from e) (by decide +kernel)
      refine ⟨szl (by simp only [List.length_cons, List.length_nil]; omega), fun p1 hp1 => ?_⟩
      rw [lit2] at ⊢
      have s2 := s1.trans (Same.mk (o := .lst (sL [wd "same", wd "("])) hp1)
      refine wx_t (sq s2 h1) (v := .ref pa) (atG (j := 1) rfl rfl) ⟨pa, a, ks, ms, false, 0, rfl, h2.same s2, ha, hks, hsub _ _ _ da, by omega, by rw [tok_0]; omega, fun l H3 hl0 s3 hl => ?_⟩
      rw [tok_0] at hl
      refine oadd_sl (s3 _ _ upd_same) hl (by simp only [List.length_cons, List.length_nil]; omega) fun p4 hp4 => ?_
      walk_at "di"
      refine ⟨szl (by simp only [List.length_cons, List.length_nil]; omega), fun p5 hp5 => ?_⟩
      rw [lit1] at ⊢
      have s5 := (s2.trans s3).trans ((Same.mk (o := .lst (sL ([wd "same", wd "("] ++ tokB a false))) hp4).trans (Same.mk (o := .lst (sL [wd ","])) hp5))
      refine oadd_sl (Same.mk hp5 _ _ upd_same) upd_same (by simp only [List.length_append, List.length_cons, List.length_nil]; omega) fun p6 hp6 => ?_
      have s6 := s5.trans (Same.mk (o := .lst (sL ([wd "same", wd "("] ++ tokB a false ++ [wd ","]))) hp6)
      walk_at "di"
      refine wx_t (sq s6 h1) (v := .ref pb) (atG (j := 2) rfl rfl) ⟨pb, b, ks, ms, false, 0, rfl, h3.same s6, hb, hks, hsub _ _ _ db, by omega, by rw [tok_0]; omega, fun l7 H7 hl07 s7 hl7 => ?_⟩
      rw [tok_0] at hl7
      refine oadd_sl (s7 _ _ upd_same) hl7 (by simp only [List.length_append, List.length_cons, List.length_nil]; omega) fun p8 hp8 => ?_
      walk_at "di"
      refine ⟨szl (by simp only [List.length_cons, List.length_nil]; omega), fun p9 hp9 => ?_⟩
      rw [lit1] at ⊢
      have s9 := (s6.trans s7).trans ((Same.mk (o := .lst (sL ([wd "same", wd "("] ++ tokB a false ++ [wd ","] ++ tokB b false))) hp8).trans (Same.mk (o := .lst (sL [wd ")"])) hp9))
      refine oadd_sl (Same.mk hp9 _ _ upd_same) upd_same (by simp only [List.length_append, List.length_cons, List.length_nil]; omega) fun pA hpA => ?_
      exact q pA _ (s9.free hpA) (s9.trans (Same.mk hpA)) upd_same
    · subst hwn
      have eB : tokB (.two (Str.ofString "when") a b) asks = [wd "["] ++ tokB b true ++ [wd "]"] ++ tok false 3 a := by rw [tokB, if_neg (by decide +kernel), if_pos rfl]; rfl
      rw [eB] at q hz
      simp only [List.length_append, List.length_cons, List.length_nil] at hz
      obtain ⟨ha, hb⟩ : a.wf ks ms false ∧ b.wf ks ms true := by
        cases asks with
        | true => rcases wf with ⟨e, _⟩ | ⟨e | e | e, _⟩ <;> exact absurd (show Str.ofString "when" = _ from e) (by decide +kernel)
        | false =>
          rcases wf with ⟨e | e | e, _⟩ | ⟨_, h⟩
          · exact absurd (show Str.ofString "when" = _ from e) (by decide +kernel)
          · exact absurd (show Str.ofString "when" = _ from e) (by decide +kernel)
          · exact absurd (show Str.ofString "when" = _ from e) (by decide +kernel)
          · exact h
      refine ⟨szl (by simp only [List.length_cons, List.length_nil]; omega), fun p1 hp1 => ?_⟩
      rw [lit1] at ⊢
      have s2 := s1.trans (Same.mk (o := .lst (sL [wd "["])) hp1)
      refine wx_t (sq s2 h1) (v := .ref pb) (atG (j := 2) rfl rfl) ⟨pb, b, ks, ms, true, 0, rfl, h3.same s2, hb, hks, hsub _ _ _ db, by omega, by rw [tok_0]; omega, fun l H3 hl0 s3 hl => ?_⟩
      rw [tok_0] at hl
      refine oadd_sl (s3 _ _ upd_same) hl (by simp only [List.length_cons, List.length_nil]; omega) fun p4 hp4 => ?_
      walk_at "di"
      refine ⟨szl (by simp only [List.length_cons, List.length_nil]; omega), fun p5 hp5 => ?_⟩
      rw [lit1] at ⊢
      have s5 := (s2.trans s3).trans ((Same.mk (o := .lst (sL ([wd "["] ++ tokB b true))) hp4).trans (Same.mk (o := .lst (sL [wd "]"])) hp5))
      refine oadd_sl (Same.mk hp5 _ _ upd_same) upd_same (by simp only [List.length_append, List.length_cons, List.length_nil]; omega) fun p6 hp6 => ?_
      have s6 := s5.trans (Same.mk (o := .lst (sL ([wd "["] ++ tokB b true ++ [wd "]"]))) hp6)
      walk_at "di"
      refine wx_t (sq s6 h1) (v := .ref pa) (atG (j := 1) rfl rfl) ⟨pa, a, ks, ms, false, 3, rfl, h2.same s6, ha, hks, hsub _ _ _ da, by omega, by omega, fun l7 H7 hl07 s7 hl7 => ?_⟩
      refine oadd_sl (s7 _ _ upd_same) hl7 (by simp only [List.length_append, List.length_cons, List.length_nil]; omega) fun p8 hp8 => ?_
      exact q p8 _ ((s6.trans s7).free hp8) ((s6.trans s7).trans (Same.mk hp8)) upd_same
    · have hw4 : w = Str.ofString "then" ∨ w = Str.ofString "and" ∨ w = Str.ofString "or" ∨ w = Str.ofString "xor" := (ws.resolve_left hs).resolve_left hwn
      have eB : tokB (.two w a b) asks = tok asks (rnkW asks w) a ++ [sgnOf w] ++ tok asks (rnkW asks w + 1) b := by rw [tokB, if_neg hs, if_neg hwn]; rfl
      rw [eB] at q hz
      simp only [List.length_append, List.length_cons, List.length_nil] at hz
      obtain ⟨ha, hb, hr⟩ : a.wf ks ms asks ∧ b.wf ks ms asks ∧ rnkW asks w ≤ 2 := by
        cases asks with
        | true =>
          rcases wf with ⟨e, _⟩ | ⟨e, h1, h2⟩
          · exact absurd e hs
          · exact ⟨h1, h2, by rcases e with e | e | e <;> (rw [show w = _ from e]; decide +kernel)⟩
        | false =>
          rcases wf with ⟨e, h1, h2⟩ | ⟨e, _⟩
          · exact ⟨h1, h2, by rcases e with e | e | e <;> (rw [show w = _ from e]; decide +kernel)⟩
          · exact absurd e hwn
      refine ⟨szl (by simp only [List.length_cons, List.length_nil]; omega), fun pS hpS => ⟨szl (by simp only [List.length_cons, List.length_nil]; omega), fun pW hpW => ?_⟩⟩
      have sS := s1.trans ((Same.mk (o := .lst [.str (Str.ofString ">>"), .str (Str.ofString "&"), .str (Str.ofString "|"), .str (Str.ofString "^")]) hpS).trans (Same.mk (o := .lst [.str (Str.ofString "then"), .str (Str.ofString "and"), .str (Str.ofString "or"), .str (Str.ofString "xor")]) hpW))
      obtain ⟨j, j1, j2, j3⟩ : ∃ j : Nat, [Str.ofString "then", Str.ofString "and", Str.ofString "or", Str.ofString "xor"][j]? = some w ∧ (∀ m, m < j → [Str.ofString "then", Str.ofString "and", Str.ofString "or", Str.ofString "xor"][m]? ≠ some w) ∧ [V.str (Str.ofString ">>"), V.str (Str.ofString "&"), V.str (Str.ofString "|"), V.str (Str.ofString "^")][j]? = some (V.str (tx (sgnOf w))) := by
        have sg : ∀ (s u : String), sgnOf (Str.ofString s) = wd u → V.str (Str.ofString u) = V.str (tx (sgnOf (Str.ofString s))) := fun s u e => by rw [e, ← ofs]
        rcases hw4 with rfl | rfl | rfl | rfl
        · exact ⟨0, rfl, fun m h => absurd h (Nat.not_lt_zero _), congrArg some (sg "then" ">>" (by decide +kernel))⟩
        · refine ⟨1, rfl, fun m h => ?_, congrArg some (sg "and" "&" (by decide +kernel))⟩
          obtain rfl : m = 0 := by omega
          decide +kernel
        · refine ⟨2, rfl, fun m h => ?_, congrArg some (sg "or" "|" (by decide +kernel))⟩
          rcases (show m = 0 ∨ m = 1 by omega) with rfl | rfl <;> decide +kernel
        · refine ⟨3, rfl, fun m h => ?_, congrArg some (sg "xor" "^" (by decide +kernel))⟩
          rcases (show m = 0 ∨ m = 1 ∨ m = 2 by omega) with rfl | rfl | rfl <;> decide +kernel
      refine ⟨ty_l (SqL.of upd_same), ?_⟩
      refine idx_s (ys := [Str.ofString "then", Str.ofString "and", Str.ofString "or", Str.ofString "xor"]) upd_same j1 j2 ?_
      refine wx_l (SqL.of (Same.mk hpW _ _ upd_same)) (atG rfl j3) ?_
      walk_at "di"
      refine wx_t (sq sS h1) (v := .ref pa) (atG (j := 1) rfl rfl) ⟨pa, a, ks, ms, asks, rnkW asks w, rfl, h2.same sS, ha, hks, hsub _ _ _ da, by omega, by omega, fun l H3 hl0 s3 hl => ?_⟩
      walk_at "di"
      refine ⟨szl (by simp only [List.length_cons, List.length_nil]; omega), fun p5 hp5 => ?_⟩
      have s5 := (sS.trans s3).trans (Same.mk (o := .lst (sL [sgnOf w])) hp5)
      refine oadd_sl (B := [sgnOf w]) (Same.mk hp5 _ _ hl) upd_same (by simp only [List.length_cons, List.length_nil]; omega) fun p6 hp6 => ?_
      have s6 := s5.trans (Same.mk (o := .lst (sL (tok asks (rnkW asks w) a ++ [sgnOf w]))) hp6)
      walk_at "di"
      refine wx_t (sq s6 h1) (v := .ref pb) (atG (j := 2) rfl rfl) ⟨pb, b, ks, ms, asks, rnkW asks w + 1, rfl, h3.same s6, hb, hks, hsub _ _ _ db, by omega, by omega, fun l7 H7 hl07 s7 hl7 => ?_⟩
      refine oadd_sl (s7 _ _ upd_same) hl7 (by simp only [List.length_append, List.length_cons, List.length_nil]; omega) fun p8 hp8 => ?_
      exact q p8 _ ((s6.trans s7).free hp8) ((s6.trans s7).trans (Same.mk hp8)) upd_same
theorem Der.up_to {a : Bool} {s : List (List Nat)} {t : Tr} {m : Nat} : ∀ {n : Nat}, Der a m s t → m ≤ n → n ≤ 4 → Der a n s t := by
  intro n h hm hn
  induction n with
  | zero =>
    obtain rfl : m = 0 := by omega
    exact h
  | succ n ih =>
    by_cases e : m = n + 1
    · subst e; exact h
    · exact (ih (by omega) (by omega)).up (by omega)
theorem rnk_le (a : Bool) (w : Str) : rnkW a w ≤ 3 := by
  rcases rnk_at a w with ⟨h, _⟩ | ⟨j, h, h2, _⟩ <;> omega
/-- from the symbols without brackets around to those with -/
theorem tok_der {a : Bool} {t : Tr} (h : Der a (4 - rnkW a t.word) (tokB t a) t) (least : Nat) : Der a (4 - least) (tok a least t) t := by
  have hr := rnk_le a t.word
  unfold tok brk
  by_cases c : rnkW a t.word < least
  · rw [decide_eq_true c, if_pos rfl]
    exact (Der.par (h.up_to (by omega) (Nat.le_refl _))).up_to (Nat.zero_le _) (by omega)
  · rw [decide_eq_false c, if_neg (by decide)]
    exact h.up_to (by omega) (by omega)
theorem tokB_der {ks ms : List Str} (hk : ∀ k ∈ ks, Nm k) (hm : ∀ k ∈ ms, Nm k) : ∀ (t : Tr) (a : Bool), t.wf ks ms a → Der a (4 - rnkW a t.word) (tokB t a) t
  | .z w, false, h => by
    obtain rfl : w = Str.ofString "here" := h
    exact Der.here.up_to (Nat.zero_le _) (by decide +kernel)
  | .z w, true, h => by
    obtain rfl : w = Str.ofString "always" := h
    exact Der.always.up_to (Nat.zero_le _) (by decide +kernel)
  | .st k d, false, h => (Der.step (hk k h.1) h.2).up_to (Nat.zero_le _) (by omega)
  | .st _ _, true, h => h.elim
  | .mk k, true, h => (Der.marked (hm k h)).up_to (Nat.zero_le _) (by omega)
  | .mk _, false, h => h.elim
  | .one _ _, false, h => h.elim
  | .one w x, true, h => by
    rcases h with ⟨e, hx⟩ | ⟨e, hx⟩
    · obtain rfl : w = Str.ofString "found" := e
      have := tok_der (tokB_der hk hm x false hx) 0
      rw [tok_0] at this
      rw [show tokB (.one (Str.ofString "found") x) true = [wd "found", wd "("] ++ tokB x false ++ [wd ")"] from by rw [tokB, if_pos rfl]]
      exact (Der.found this).up_to (Nat.zero_le _) (by omega)
    · obtain rfl : w = Str.ofString "not" := e
      have := tok_der (tokB_der hk hm x true hx) 3
      rw [show tokB (.one (Str.ofString "not") x) true = [wd "~"] ++ tok true 3 x from by rw [tokB, if_neg (by decide +kernel)]; rfl]
      exact (Der.not this).up_to (by show 1 ≤ 4 - rnkW true (Str.ofString "not"); decide +kernel) (by omega)
  | .two w x y, a, h => by
    have same_ : w = Str.ofString "same" → x.wf ks ms false → y.wf ks ms false → a = true → Der a (4 - rnkW a (Tr.two w x y).word) (tokB (.two w x y) a) (.two w x y) := fun e hx hy ea => by
      subst e ea
      have h1 := tok_der (tokB_der hk hm x false hx) 0
      have h2 := tok_der (tokB_der hk hm y false hy) 0
      rw [tok_0] at h1 h2
      rw [show tokB (.two (Str.ofString "same") x y) true = [wd "same", wd "("] ++ tokB x false ++ [wd ","] ++ tokB y false ++ [wd ")"] from by rw [tokB, if_pos rfl]]
      exact (Der.same h1 h2).up_to (Nat.zero_le _) (by omega)
    have when_ : w = Str.ofString "when" → x.wf ks ms false → y.wf ks ms true → a = false → Der a (4 - rnkW a (Tr.two w x y).word) (tokB (.two w x y) a) (.two w x y) := fun e hx hy ea => by
      subst e ea
      have h1 := tok_der (tokB_der hk hm x false hx) 3
      have h2 := tok_der (tokB_der hk hm y true hy) 0
      rw [tok_0] at h2
      rw [show tokB (.two (Str.ofString "when") x y) false = [wd "["] ++ tokB y true ++ [wd "]"] ++ tok false 3 x from by rw [tokB, if_neg (by decide +kernel), if_pos rfl]; rfl]
      exact (Der.when h2 h1).up_to (by show 1 ≤ 4 - rnkW false (Str.ofString "when"); decide +kernel) (by omega)
    have bin_ : rnkW a w ≤ 2 → w ≠ Str.ofString "same" → w ≠ Str.ofString "when" → wdA a (rnkW a w) = w → sgA a (rnkW a w) = sgnOf w → x.wf ks ms a → y.wf ks ms a → Der a (4 - rnkW a (Tr.two w x y).word) (tokB (.two w x y) a) (.two w x y) := fun hr n1 n2 ew es hx hy => by
      have h1 := tok_der (tokB_der hk hm x a hx) (rnkW a w)
      have h2 := tok_der (tokB_der hk hm y a hy) (rnkW a w + 1)
      have e1 : 4 - rnkW a w = (2 - rnkW a w) + 2 := by omega
      have e2 : 4 - (rnkW a w + 1) = (2 - rnkW a w) + 1 := by omega
      rw [e1] at h1
      rw [e2] at h2
      have := Der.bin (by omega) h1 h2
      unfold sgI wdI at this
      rw [← e1, show 4 - (4 - rnkW a w) = rnkW a w from by omega, ew, es] at this
      show Der a (4 - rnkW a w) (tokB (.two w x y) a) (.two w x y)
      rw [show tokB (.two w x y) a = tok a (rnkW a w) x ++ [sgnOf w] ++ tok a (rnkW a w + 1) y from by rw [tokB, if_neg n1, if_neg n2]; rfl]
      exact this
    cases a with
    | false =>
      rcases h with ⟨e, hx, hy⟩ | ⟨e, hx, hy⟩
      · rcases e with e | e | e <;> (subst e; exact bin_ (by decide +kernel) (by decide +kernel) (by decide +kernel) (by decide +kernel) (by decide +kernel) hx hy)
      · exact when_ e hx hy rfl
    | true =>
      rcases h with ⟨e, hx, hy⟩ | ⟨e, hx, hy⟩
      · exact same_ e hx hy rfl
      · rcases e with e | e | e <;> (subst e; exact bin_ (by decide +kernel) (by decide +kernel) (by decide +kernel) (by decide +kernel) (by decide +kernel) hx hy)
theorem opens_nil : opens [] = 0 := rfl
theorem opens_no {x : List Nat} {s : List (List Nat)} (h : x ≠ wd "(") (h2 : x ≠ wd "[") : opens (x :: s) = opens s := by
  rw [opens_1, if_neg (fun z => z.elim h h2)]
  rfl
theorem opens_brk (b : Bool) (l : List (List Nat)) : opens (brk b l) ≤ opens l + 1 := by
  unfold brk
  split
  · rw [List.append_assoc, List.singleton_append, opens_1, if_pos (.inl rfl), opens_app, opens_no (by decide +kernel) (by decide +kernel), opens_nil]
    omega
  · omega
theorem nm_open {k : Str} (h : Nm k) : k.cps.toList ≠ wd "(" ∧ k.cps.toList ≠ wd "[" := by
  refine ⟨fun z => ?_, fun z => ?_⟩
  · have := h.2.2 40 (by rw [z]; decide +kernel)
    omega
  · have := h.2.2 91 (by rw [z]; decide +kernel)
    omega
theorem sgnOf_no (w : Str) : sgnOf w ≠ wd "(" ∧ sgnOf w ≠ wd "[" := by
  unfold sgnOf
  split
  · decide +kernel
  split
  · decide +kernel
  split
  · decide +kernel
  · decide +kernel
theorem opens_tok {ks ms : List Str} (hm : ∀ k ∈ ms, Nm k) : ∀ (t : Tr) (a : Bool), t.wf ks ms a → opens (tokB t a) ≤ t.brk
  | .z w, false, h => by
    obtain rfl : w = Str.ofString "here" := h
    decide +kernel
  | .z w, true, h => by
    obtain rfl : w = Str.ofString "always" := h
    decide +kernel
  | .st k d, false, h => by
    show opens [_] ≤ 0
    have e : ∀ c : Nat, c = 40 ∨ c = 91 → (if 0 < d then 43 else 45) ≠ c := fun c hc => by split <;> omega
    have h1 : (if 0 < d then 43 else 45) :: k.cps.toList ≠ wd "(" := by
      intro z
      have := congrArg List.head? z
      rw [show (wd "(").head? = some 40 from by decide +kernel] at this
      exact e 40 (.inl rfl) (by simpa using this)
    have h2 : (if 0 < d then 43 else 45) :: k.cps.toList ≠ wd "[" := by
      intro z
      have := congrArg List.head? z
      rw [show (wd "[").head? = some 91 from by decide +kernel] at this
      exact e 91 (.inr rfl) (by simpa using this)
    rw [opens_no h1 h2, opens_nil]
    exact Nat.le_refl _
  | .st _ _, true, h => h.elim
  | .mk k, true, h => by
    show opens [wd "marked", wd "(", k.cps.toList, wd ")"] ≤ 1
    obtain ⟨h1, h2⟩ := nm_open (hm k h)
    rw [opens_no (by decide +kernel) (by decide +kernel), opens_1, if_pos (.inl rfl), opens_no h1 h2, opens_no (by decide +kernel) (by decide +kernel), opens_nil]
    exact Nat.le_refl _
  | .mk _, false, h => h.elim
  | .one _ _, false, h => h.elim
  | .one w x, true, h => by
    rcases h with ⟨e, hx⟩ | ⟨e, hx⟩
    · obtain rfl : w = Str.ofString "found" := e
      have ih := opens_tok hm x false hx
      rw [show tokB (.one (Str.ofString "found") x) true = [wd "found", wd "("] ++ tokB x false ++ [wd ")"] from by rw [tokB, if_pos rfl]]
      rw [opens_app, opens_app, opens_no (by decide +kernel) (by decide +kernel), opens_1, if_pos (.inl rfl), opens_no (by decide +kernel) (by decide +kernel), opens_nil]
      show 0 + 1 + opens (tokB x false) + 0 ≤ x.brk + 1
      omega
    · obtain rfl : w = Str.ofString "not" := e
      have ih := opens_tok hm x true hx
      rw [show tokB (.one (Str.ofString "not") x) true = [wd "~"] ++ brk (decide (rnkW true x.word < 3)) (tokB x true) from by rw [tokB, if_neg (by decide +kernel)]]
      have := opens_brk (decide (rnkW true x.word < 3)) (tokB x true)
      rw [opens_app, opens_no (by decide +kernel) (by decide +kernel), opens_nil]
      show 0 + _ ≤ x.brk + 1
      omega
  | .two w x y, a, h => by
    have br_ : (Tr.two w x y).brk = x.brk + y.brk + 2 := rfl
    have fin : ∀ {p q : Bool}, x.wf ks ms p → y.wf ks ms q → (opens (tokB x p) ≤ x.brk ∧ opens (tokB y q) ≤ y.brk) := fun hx hy => ⟨opens_tok hm x _ hx, opens_tok hm y _ hy⟩
    by_cases n1 : w = Str.ofString "same"
    · obtain ⟨hx, hy⟩ : x.wf ks ms false ∧ y.wf ks ms false := by
        cases a with
        | false => rcases h with ⟨e | e | e, _⟩ | ⟨e, _⟩ <;> (rw [n1] at e; exact absurd e (by decide +kernel))
        | true =>
          rcases h with ⟨_, h⟩ | ⟨e | e | e, _⟩
          · exact h
          all_goals (rw [n1] at e; exact absurd e (by decide +kernel))
      obtain ⟨i1, i2⟩ := fin hx hy
      rw [tokB, if_pos n1]
      simp only [opens_app]
      rw [opens_no (by decide +kernel) (by decide +kernel), opens_1, if_pos (.inl rfl), opens_no (by decide +kernel) (by decide +kernel), opens_no (by decide +kernel) (by decide +kernel), opens_nil]
      omega
    by_cases n2 : w = Str.ofString "when"
    · obtain ⟨hx, hy⟩ : x.wf ks ms false ∧ y.wf ks ms true := by
        cases a with
        | true => rcases h with ⟨e, _⟩ | ⟨e | e | e, _⟩ <;> (rw [n2] at e; exact absurd e (by decide +kernel))
        | false =>
          rcases h with ⟨e | e | e, _⟩ | ⟨_, h⟩
          · rw [n2] at e; exact absurd e (by decide +kernel)
          · rw [n2] at e; exact absurd e (by decide +kernel)
          · rw [n2] at e; exact absurd e (by decide +kernel)
          · exact h
      obtain ⟨i1, i2⟩ := fin hx hy
      rw [tokB, if_neg n1, if_pos n2]
      have := opens_brk (decide (rnkW false x.word < 3)) (tokB x false)
      simp only [opens_app]
      rw [opens_1, if_pos (.inr rfl), opens_no (by decide +kernel) (by decide +kernel), opens_nil]
      omega
    · obtain ⟨hx, hy⟩ : x.wf ks ms a ∧ y.wf ks ms a := by
        cases a with
        | true =>
          rcases h with ⟨e, _⟩ | ⟨_, h⟩
          · exact absurd e n1
          · exact h
        | false =>
          rcases h with ⟨_, h⟩ | ⟨e, _⟩
          · exact h
          · exact absurd e n2
      obtain ⟨i1, i2⟩ := fin hx hy
      rw [tokB, if_neg n1, if_neg n2]
      have h1 := opens_brk (decide (rnkW a x.word < rnkW a w)) (tokB x a)
      have h2 := opens_brk (decide (rnkW a y.word < rnkW a w + 1)) (tokB y a)
      simp only [opens_app]
      rw [opens_no (sgnOf_no w).1 (sgnOf_no w).2, opens_nil]
      omega
/-- a symbol as texts have them -/
def isW (s : List Nat) : Bool := decide (1 ≤ s.length ∧ s.length ≤ 8) && s.all isL
inductive Vs : List Nat → Prop where
  | sgn {c : Nat} : sgnB c = true → Vs [c]
  | go : Vs [62, 62]
  | word {s : List Nat} : 1 ≤ s.length → s.length ≤ 8 → (∀ c ∈ s, isL c = true) → Vs s
  | step {c : Nat} {s : List Nat} : (c = 43 ∨ c = 45) → 1 ≤ s.length → s.length ≤ 8 → (∀ c ∈ s, isL c = true) → Vs (c :: s)
/-- its last sign, its first one, is a letter -/
def endL (s : List Nat) : Bool := (s.getLast?.map isL).getD false
def begL (s : List Nat) : Bool := (s.head?.map isL).getD false
theorem sgnB_noL {c : Nat} (h : sgnB c = true) : isL c = false ∧ c ≠ 32 ∧ c ≠ 62 ∧ c ≠ 43 ∧ c ≠ 45 := by
  have key : ∀ x ∈ (Str.ofString "()[],|&^~").cps.toList, isL x = false ∧ x ≠ 32 ∧ x ≠ 62 ∧ x ≠ 43 ∧ x ≠ 45 := by decide +kernel
  exact key c (of_decide_eq_true h)
theorem isL_no {c : Nat} (h : isL c = true) : sgnB c = false ∧ c ≠ 32 ∧ c ≠ 62 ∧ ¬ (c = 43 ∨ c = 45) := by
  have hc : 97 ≤ c ∧ c ≤ 122 := of_decide_eq_true h
  refine ⟨?_, by omega, by omega, by omega⟩
  cases e : sgnB c with
  | false => rfl
  | true => rw [(sgnB_noL e).1] at h; cases h
theorem runL_app {s Y : List Nat} (h : ∀ c ∈ s, isL c = true) (hY : begL Y = false) : runL (s ++ Y) = s.length := by
  induction s with
  | nil =>
    cases Y with
    | nil => rfl
    | cons c r =>
      show (if isL c = true then runL r + 1 else 0) = 0
      rw [if_neg]
      have : isL c = false := hY
      rw [this]; decide
  | cons c r ih =>
    show (if isL c = true then runL (r ++ Y) + 1 else 0) = r.length + 1
    rw [if_pos (h c (.head _)), ih fun x hx => h x (.tail _ hx)]
theorem Vs.pos {s : List Nat} (h : Vs s) : 0 < s.length ∧ ∃ c r, s = c :: r ∧ c ≠ 32 := by
  cases h with
  | sgn h => exact ⟨by simp, _, _, rfl, (sgnB_noL h).2.1⟩
  | go => exact ⟨by decide, _, _, rfl, by decide⟩
  | word h1 h2 h3 =>
    cases s with
    | nil => simp at h1
    | cons c r => exact ⟨by simp, c, r, rfl, (isL_no (h3 c (.head _))).2.1⟩
  | step h h1 h2 h3 => exact ⟨by simp, _, _, rfl, by omega⟩
/-- the symbol that begins here is s -/
theorem symA_of {s Y : List Nat} (h : Vs s) (hY : endL s = true → begL Y = false) : symA (s ++ Y) = s := by
  cases h with
  | @sgn c h =>
    rw [List.singleton_append, symA_c, if_pos h]
  | go =>
    show symA (62 :: 62 :: Y) = _
    rw [symA_c, if_neg (by decide +kernel), if_pos (show List.take 2 (62 :: 62 :: Y) = [62, 62] from rfl)]
  | word h1 h2 h3 =>
    have hend : endL s = true := by
      unfold endL
      cases e : s.getLast? with
      | none => rw [List.getLast?_eq_none_iff.mp e] at h1; simp at h1
      | some c => exact h3 c (List.mem_of_getLast? e)
    have hr := runL_app h3 (hY hend)
    cases s with
    | nil => simp at h1
    | cons c r =>
      obtain ⟨n1, n2, n3, n4⟩ := isL_no (h3 c (.head _))
      rw [List.cons_append, symA_c, if_neg (by rw [n1]; decide), if_neg, if_neg n4, List.drop_zero, ← List.cons_append, hr, if_pos ⟨h1, h2⟩, Nat.zero_add, List.take_left]
      intro z
      have := congrArg List.head? z
      simp only [List.take_succ_cons, List.head?_cons, Option.some.injEq] at this
      exact n3 this
  | @step c s h h1 h2 h3 =>
    have hend : endL (c :: s) = true := by
      unfold endL
      cases s with
      | nil => simp at h1
      | cons x r =>
        rw [List.getLast?_cons_cons]
        cases e : (x :: r).getLast? with
        | none => simp at e
        | some y => exact h3 y (List.mem_of_getLast? e)
    have hr := runL_app h3 (hY hend)
    have n1 : ¬ sgnB c = true := fun z => by have := (sgnB_noL z).2.2.2; omega
    rw [List.cons_append, symA_c, if_neg n1, if_neg, if_pos h, List.drop_one, List.tail_cons, hr, if_pos ⟨h1, h2⟩]
    · rw [show 1 + s.length = (c :: s).length from by rw [List.length_cons]; omega, ← List.cons_append, List.take_left]
    · intro z
      have := congrArg List.head? z
      simp only [List.take_succ_cons, List.head?_cons, Option.some.injEq] at this
      omega
/-- symbols with blanks ahead of them, e blanks at the end -/
def txtB : List (Nat × List Nat) → Nat → List Nat
  | [], e => List.replicate e 32
  | (n, s) :: r, e => List.replicate n 32 ++ (s ++ txtB r e)
/-- the places of the symbols -/
def plc : Nat → List (Nat × List Nat) → Nat → List Sy
  | at_, [], e => [([], at_ + e)]
  | at_, (n, s) :: r, e => (s, at_ + n) :: plc (at_ + n + s.length) r e
/-- blanks where they must be -/
def OkB : List (Nat × List Nat) → Prop
  | [] => True
  | (_, s) :: r => Vs s ∧ (endL s = true → ∀ n u, r.head? = some (n, u) → n = 0 → begL u = false) ∧ OkB r
theorem lexA_s {f at_ c : Nat} {r : List Nat} : lexA (f + 1) at_ (c :: r) = if c = 32 then lexA f (at_ + 1) r else if symA (c :: r) = [] then [([], at_)] else (symA (c :: r), at_) :: lexA f (at_ + (symA (c :: r)).length) ((c :: r).drop (symA (c :: r)).length) := by rw [lexA]
theorem lexA_32 {f at_ : Nat} {X : List Nat} (h : X.length + 1 < f) : lexA f at_ (32 :: X) = lexA f (at_ + 1) X := by
  cases f with
  | zero => exact absurd h (Nat.not_lt_zero _)
  | succ f =>
    rw [lexA_s, if_pos rfl]
    exact lexA_fuel (by omega) (by omega)
theorem lexA_rep {f : Nat} {X : List Nat} : ∀ (n at_ : Nat), X.length + n < f → lexA f at_ (List.replicate n 32 ++ X) = lexA f (at_ + n) X
  | 0, at_, _ => rfl
  | n + 1, at_, h => by
    rw [List.replicate_succ, List.cons_append, lexA_32 (by rw [List.length_append, List.length_replicate]; omega), lexA_rep n (at_ + 1) (by omega)]
    congr 1
    omega
theorem lexA_txt {e : Nat} : ∀ (ps : List (Nat × List Nat)) (at_ f : Nat), OkB ps → (txtB ps e).length < f → lexA f at_ (txtB ps e) = plc at_ ps e
  | [], at_, f, _, h => by
    have h : (List.replicate e 32).length < f := h
    rw [List.length_replicate] at h
    show lexA f at_ (List.replicate e 32) = _
    have := lexA_rep (f := f) (X := []) e at_ (by rw [List.length_nil]; omega)
    rw [List.append_nil] at this
    rw [this]
    cases f with
    | zero => rfl
    | succ f => rfl
  | (n, s) :: r, at_, f, ok, h => by
    obtain ⟨vs, adj, okr⟩ := ok
    have h : (List.replicate n 32 ++ (s ++ txtB r e)).length < f := h
    rw [List.length_append, List.length_append, List.length_replicate] at h
    show lexA f at_ (List.replicate n 32 ++ (s ++ txtB r e)) = (s, at_ + n) :: plc (at_ + n + s.length) r e
    rw [lexA_rep n at_ (by rw [List.length_append]; omega)]
    have sy : symA (s ++ txtB r e) = s := symA_of vs fun he => by
      cases r with
      | nil =>
        show begL (List.replicate e 32) = false
        cases e with
        | zero => rfl
        | succ e => rfl
      | cons x r =>
        obtain ⟨n', u⟩ := x
        show begL (List.replicate n' 32 ++ (u ++ txtB r e)) = false
        cases n' with
        | succ n' => rfl
        | zero =>
          have hb := adj he 0 u rfl rfl
          obtain ⟨c, u', rfl, _⟩ := okr.1.pos.2
          exact hb
    obtain ⟨hp, c, s', rfl, hc⟩ := vs.pos
    cases f with
    | zero => exact absurd h (Nat.not_lt_zero _)
    | succ f =>
      rw [List.cons_append] at sy
      rw [List.cons_append, lexA_s, if_neg hc, sy, if_neg (by simp)]
      congr 1
      rw [← List.cons_append, List.drop_left]
      exact lexA_txt r _ f okr (by rw [List.length_cons] at h; omega)
theorem lexT_txt {ps : List (Nat × List Nat)} {e : Nat} (ok : OkB ps) : lexT (txtB ps e) = plc 0 ps e := lexA_txt ps 0 _ ok (Nat.lt_succ_self _)
theorem plc_map : ∀ (ps : List (Nat × List Nat)) (at_ e : Nat), (plc at_ ps e).map Prod.fst = ps.map Prod.snd ++ [[]]
  | [], _, _ => rfl
  | (n, s) :: r, at_, e => by
    show s :: _ = s :: _
    rw [plc_map r]
    rfl
theorem plc_end : ∀ (ps : List (Nat × List Nat)) (at_ e : Nat), (plc at_ ps e).drop ps.length = [([], at_ + (txtB ps e).length)]
  | [], at_, e => by
    show [([], at_ + e)] = [([], at_ + (List.replicate e 32).length)]
    rw [List.length_replicate]
  | (n, s) :: r, at_, e => by
    show (plc (at_ + n + s.length) r e).drop r.length = [([], at_ + (List.replicate n 32 ++ (s ++ txtB r e)).length)]
    rw [plc_end r]
    simp only [List.length_append, List.length_replicate]
    rw [show at_ + n + s.length + (txtB r e).length = at_ + (n + (s.length + (txtB r e).length)) from by omega]
/-- a written formula is read -/
theorem read_ok {a : Bool} {t : Tr} {ps : List (Nat × List Nat)} {e o : Nat} (ok : OkB ps) (d : Der a 4 (ps.map Prod.snd) t) (ho : opens (ps.map Prod.snd) < o) : readT o a (txtB ps e) = some (.ok t [([], (txtB ps e).length)]) := by
  unfold readT
  rw [lexT_txt ok]
  have r := Pn.inner (der_reads d) o (plc 0 ps e) [[]] ho (plc_map ps 0 e) (nx_end a)
  rw [r, List.length_map, plc_end, Nat.zero_add]
  show (if hdP [(([] : List Nat), (txtB ps e).length)] < _ then _ else _) = _
  rw [if_neg (show ¬ hdP [(([] : List Nat), (txtB ps e).length)] < (txtB ps e).length from Nat.lt_irrefl _)]
/-! the law's own blanks -/
def preB (s : List Nat) : Nat := if s = wd "|" ∨ s = wd "&" ∨ s = wd "^" ∨ s = wd ">>" then 1 else 0
def posB (s : List Nat) : Nat := if s = wd "|" ∨ s = wd "&" ∨ s = wd "^" ∨ s = wd ">>" ∨ s = wd "]" ∨ s = wd "," then 1 else 0
def wrP : Nat → List (List Nat) → List (Nat × List Nat)
  | _, [] => []
  | c, s :: r => (c + preB s, s) :: wrP (posB s) r
def wrE : Nat → List (List Nat) → Nat
  | c, [] => c
  | _, s :: r => wrE (posB s) r
theorem wrS_bl (s : List Nat) : wrS s = List.replicate (preB s) 32 ++ s ++ List.replicate (posB s) 32 := by
  have e1 : wd " " = [32] := by decide +kernel
  unfold wrS preB posB
  by_cases h : s = wd "|" ∨ s = wd "&" ∨ s = wd "^" ∨ s = wd ">>"
  · rw [if_pos h, if_pos h, if_pos (by rcases h with h | h | h | h <;> simp [h]), e1]
    rfl
  · rw [if_neg h, if_neg h]
    by_cases h2 : s = wd "]" ∨ s = wd ","
    · rw [if_pos h2, if_pos (by rcases h2 with h | h <;> simp [h]), e1]
      rfl
    · rw [if_neg h2, if_neg (by
        rintro (z | z | z | z | z | z)
        · exact h (.inl z)
        · exact h (.inr (.inl z))
        · exact h (.inr (.inr (.inl z)))
        · exact h (.inr (.inr (.inr z)))
        · exact h2 (.inl z)
        · exact h2 (.inr z))]
      simp
theorem wr_txt : ∀ (l : List (List Nat)) (c : Nat), List.replicate c 32 ++ wr l = txtB (wrP c l) (wrE c l)
  | [], c => by
    show List.replicate c 32 ++ [] = List.replicate c 32
    rw [List.append_nil]
  | s :: r, c => by
    rw [wr_cons, wrS_bl]
    show _ = List.replicate (c + preB s) 32 ++ (s ++ txtB (wrP (posB s) r) (wrE (posB s) r))
    rw [← wr_txt r (posB s), ← List.replicate_append_replicate]
    simp only [List.append_assoc]
theorem wrP_map : ∀ (l : List (List Nat)) (c : Nat), (wrP c l).map Prod.snd = l
  | [], _ => rfl
  | s :: r, c => by
    show s :: _ = s :: r
    rw [wrP_map r]
/-- no two words side by side -/
def Ch : List (List Nat) → Prop
  | [] => True
  | s :: r => Vs s ∧ (endL s = true → ∀ u, r.head? = some u → begL u = false) ∧ Ch r
theorem Ch.ok : ∀ {l : List (List Nat)} {c : Nat}, Ch l → OkB (wrP c l)
  | [], _, _ => trivial
  | s :: r, c, ⟨h1, h2, h3⟩ => by
    refine ⟨h1, fun he n u hu hn => ?_, h3.ok⟩
    cases r with
    | nil => simp [wrP] at hu
    | cons x r =>
      simp only [wrP, List.head?_cons, Option.some.injEq, Prod.mk.injEq] at hu
      obtain ⟨_, rfl⟩ := hu
      exact h2 he x rfl
theorem Ch.app : ∀ {A B : List (List Nat)}, Ch A → Ch B → (∀ x ∈ A.getLast?, ∀ y ∈ B.head?, endL x = true → begL y = false) → Ch (A ++ B)
  | [], B, _, h, _ => h
  | s :: A, B, ⟨h1, h2, h3⟩, hB, hj => by
    refine ⟨h1, fun he u hu => ?_, Ch.app h3 hB fun x hx y hy => ?_⟩
    · cases A with
      | nil => exact hj s (by simp) u hu he
      | cons a A => exact h2 he u hu
    · cases A with
      | nil => simp at hx
      | cons a A => exact hj x (by rw [List.getLast?_cons_cons]; exact hx) y hy
/-- a sign between two -/
theorem Ch.sep {A B : List (List Nat)} {s : List Nat} (hA : Ch A) (hB : Ch B) (vs : Vs s) (h1 : endL s = false) (h2 : begL s = false) : Ch (A ++ [s] ++ B) := by
  have hs : Ch [s] := ⟨vs, fun h => (by rw [h1] at h; cases h), trivial⟩
  refine (hA.app hs fun x hx y hy he => ?_).app hB fun x hx y hy he => ?_
  · simp only [List.head?_cons, Option.mem_def, Option.some.injEq] at hy
    subst hy
    exact h2
  · rw [List.getLast?_append] at hx
    simp only [List.getLast?_singleton, Option.some_or, Option.mem_def, Option.some.injEq] at hx
    subst hx
    rw [h1] at he
    cases he
theorem Ch.pre {B : List (List Nat)} {s : List Nat} (hB : Ch B) (vs : Vs s) (h1 : endL s = false) : Ch (s :: B) := ⟨vs, fun h => (by rw [h1] at h; cases h), hB⟩
theorem Ch.post {A : List (List Nat)} {s : List Nat} (hA : Ch A) (vs : Vs s) (h1 : endL s = false) (h2 : begL s = false) : Ch (A ++ [s]) := by
  have := Ch.sep (B := []) hA trivial vs h1 h2
  rwa [List.append_nil] at this
theorem Ch.brk {A : List (List Nat)} (b : Bool) (h : Ch A) : Ch (brk b A) := by
  unfold K.brk
  split
  · rw [List.append_assoc, List.singleton_append]
    exact Ch.pre (h.post (.sgn (c := 41) (by decide +kernel)) (by decide +kernel) (by decide +kernel)) (.sgn (c := 40) (by decide +kernel)) (by decide +kernel)
  · exact h
theorem vs_sgn (s : String) (h : s = "(" ∨ s = ")" ∨ s = "[" ∨ s = "]" ∨ s = "," ∨ s = "~" ∨ s = "|" ∨ s = "&" ∨ s = "^" ∨ s = ">>") : Vs (wd s) ∧ endL (wd s) = false ∧ begL (wd s) = false := by
  rcases h with rfl | rfl | rfl | rfl | rfl | rfl | rfl | rfl | rfl | rfl
  · exact ⟨.sgn (c := 40) (by decide +kernel), by decide +kernel, by decide +kernel⟩
  · exact ⟨.sgn (c := 41) (by decide +kernel), by decide +kernel, by decide +kernel⟩
  · exact ⟨.sgn (c := 91) (by decide +kernel), by decide +kernel, by decide +kernel⟩
  · exact ⟨.sgn (c := 93) (by decide +kernel), by decide +kernel, by decide +kernel⟩
  · exact ⟨.sgn (c := 44) (by decide +kernel), by decide +kernel, by decide +kernel⟩
  · exact ⟨.sgn (c := 126) (by decide +kernel), by decide +kernel, by decide +kernel⟩
  · exact ⟨.sgn (c := 124) (by decide +kernel), by decide +kernel, by decide +kernel⟩
  · exact ⟨.sgn (c := 38) (by decide +kernel), by decide +kernel, by decide +kernel⟩
  · exact ⟨.sgn (c := 94) (by decide +kernel), by decide +kernel, by decide +kernel⟩
  · exact ⟨.go, by decide +kernel, by decide +kernel⟩
theorem vs_nm {k : Str} (h : Nm k) : Vs k.cps.toList := by
  have hl : k.cps.toList.length = k.length := by rw [Array.length_toList]; rfl
  exact .word (by rw [hl]; exact h.1) (by rw [hl]; exact h.2.1) fun c hc => decide_eq_true (h.2.2 c hc)
theorem vs_wd (s : String) (h : s = "here" ∨ s = "always" ∨ s = "marked" ∨ s = "found" ∨ s = "same") : Vs (wd s) := by
  rcases h with rfl | rfl | rfl | rfl | rfl <;> exact .word (by decide +kernel) (by decide +kernel) (by decide +kernel)
/-- by the rules no two words stand side by side -/
theorem Der.ch {a : Bool} {n : Nat} {s : List (List Nat)} {t : Tr} (h : Der a n s t) : Ch s := by
  have cl : ∀ {A : List (List Nat)} (x : String), (x = ")" ∨ x = "]" ∨ x = ",") → Ch A → Ch (A ++ [wd x]) := fun x hx hA => by
    obtain ⟨h1, h2, h3⟩ := vs_sgn x (by rcases hx with rfl | rfl | rfl <;> simp)
    exact hA.post h1 h2 h3
  have op : ∀ {A : List (List Nat)} (x : String), (x = "(" ∨ x = "[" ∨ x = "~") → Ch A → Ch (wd x :: A) := fun x hx hA => by
    obtain ⟨h1, h2, _⟩ := vs_sgn x (by rcases hx with rfl | rfl | rfl <;> simp)
    exact hA.pre h1 h2
  have fn : ∀ {A : List (List Nat)} (x : String), (x = "found" ∨ x = "same" ∨ x = "marked") → Ch A → Ch (wd x :: wd "(" :: A) := fun x hx hA =>
    ⟨vs_wd x (by rcases hx with rfl | rfl | rfl <;> simp), fun _ u hu => (by
      simp only [List.head?_cons, Option.some.injEq] at hu
      subst hu
      decide +kernel), op "(" (.inl rfl) hA⟩
  induction h with
  | here => exact ⟨vs_wd "here" (.inl rfl), fun _ u hu => (by simp at hu), trivial⟩
  | @step k d hk hd =>
    have hl : k.cps.toList.length = k.length := by rw [Array.length_toList]; rfl
    exact ⟨.step (by split <;> simp) (by rw [hl]; exact hk.1) (by rw [hl]; exact hk.2.1) (fun c hc => decide_eq_true (hk.2.2 c hc)), fun _ u hu => (by simp at hu), trivial⟩
  | par _ ih => rw [List.append_assoc]; exact op "(" (.inl rfl) (cl ")" (.inl rfl) ih)
  | always => exact ⟨vs_wd "always" (.inr (.inl rfl)), fun _ u hu => (by simp at hu), trivial⟩
  | @marked k hk =>
    refine fn "marked" (.inr (.inr rfl)) ⟨vs_nm hk, fun _ u hu => ?_, cl (A := []) ")" (.inl rfl) trivial⟩
    simp only [List.head?_cons, Option.some.injEq] at hu
    subst hu
    decide +kernel
  | found _ ih => rw [List.append_assoc]; exact fn "found" (.inl rfl) (cl ")" (.inl rfl) ih)
  | @same s u t v _ _ ih1 ih2 =>
    obtain ⟨h1, h2, h3⟩ := vs_sgn "," (by simp)
    have := Ch.sep ih1 (cl ")" (.inl rfl) ih2) h1 h2 h3
    have := fn "same" (.inr (.inl rfl)) this
    simpa [List.append_assoc] using this
  | up _ _ ih => exact ih
  | @when s u t v _ _ ih1 ih2 =>
    obtain ⟨h1, h2, h3⟩ := vs_sgn "]" (by simp)
    have := op "[" (.inr (.inl rfl)) (Ch.sep ih1 ih2 h1 h2 h3)
    simpa [List.append_assoc] using this
  | not _ ih => exact op "~" (.inr (.inr rfl)) ih
  | @bin a n s u t v hn _ _ ih1 ih2 =>
    have hs : ∃ x : String, sgI a (n + 2) = wd x ∧ (x = "|" ∨ x = "&" ∨ x = "^" ∨ x = ">>") := by
      have : n = 0 ∨ n = 1 ∨ n = 2 := by omega
      rcases this with rfl | rfl | rfl <;> cases a
      · exact ⟨">>", by decide +kernel, by simp⟩
      · exact ⟨"&", by decide +kernel, by simp⟩
      · exact ⟨"&", by decide +kernel, by simp⟩
      · exact ⟨"^", by decide +kernel, by simp⟩
      · exact ⟨"|", by decide +kernel, by simp⟩
      · exact ⟨"|", by decide +kernel, by simp⟩
    obtain ⟨x, e, hx⟩ := hs
    rw [e]
    obtain ⟨h1, h2, h3⟩ := vs_sgn x (by rcases hx with rfl | rfl | rfl | rfl <;> simp)
    exact Ch.sep ih1 ih2 h1 h2 h3
/-- what the law writes is read -/
theorem read_wr {a : Bool} {t : Tr} {s : List (List Nat)} {o : Nat} (d : Der a 4 s t) (ho : opens s < o) : readT o a (wr s) = some (.ok t [([], (wr s).length)]) := by
  have e := wr_txt s 0
  rw [List.replicate_zero, List.nil_append] at e
  have d' : Der a 4 ((wrP 0 s).map Prod.snd) t := by rw [wrP_map]; exact d
  rw [e]
  exact read_ok d.ch.ok d' (by rw [wrP_map]; exact ho)
def spLWr (K : PySem.W.Frag) : Sp := fun vs H Q _ => ∃ (l : Addr) (ss : List (List Nat)), vs = [.ref l] ∧ SqL K H l (ss.map fun s => V.str (tx s)) ∧ (wr ss).length < 50000 ∧ ss.length < 50000 ∧ ∀ H', Same H H' → Q (.str (tx (wr ss))) H'
def spLWordy (K : PySem.W.Frag) : Sp := fun vs H Q _ => ∃ (b : Addr) (n m : Nat), vs = [.ref b, .int m] ∧ Box b (n + 600) H ∧ 1 ≤ m ∧ m ≤ 20 ∧
  ∀ p (zs : List Str) H', H p = none → Fr [b] H H' → Box b n H' → H' p = some (.lst (zs.map V.str)) → zs.length ≤ m → (∀ z ∈ zs, Nm z) → Q (.ref p) H'
abbrev s_lwordy : Stmt := topS 46
abbrev n_lwordy : List Str := ["_law_box_here", "_law_many", "_law_found", "_law_own"]
theorem sc_lwordy : FnScope n_lwordy ["_law_box_here", "_law_many"] (defScope s_lwordy) := ⟨rfl, rfl, rfl, by decide +kernel, rfl, by decide +kernel, by decide +kernel⟩
theorem nm_lwordy : nvB n_lwordy (defScope s_lwordy) 0 "_law_box_here" = true ∧ nvB n_lwordy (defScope s_lwordy) 1 "_law_many" = true ∧ nvB n_lwordy (defScope s_lwordy) 2 "_law_found" = true ∧ lvB n_lwordy (defScope s_lwordy) 2 "_law_found" = true ∧ gvB (defScope s_lwordy) "_law_names" = true ∧ gvB (defScope s_lwordy) "_law_pick" = true ∧ gvB (defScope s_lwordy) "_law_take" = true := by decide +kernel
theorem cl_lwordy {Γ : Gm} (dfn : Dfn Γ "_law_wordy" s_lwordy ["_law_box_here", "_law_many"]) (T : Names Γ) (c_law_take : Cl Γ CX0 1 "_law_take" spTake []) (c_law_pick : Cl Γ CX0 2 "_law_pick" (spPick Γ.K) []) (c_law_names : Cl Γ CX0 4 "_law_names" (spNms Γ.K) []) : Cl Γ CX0 (6) "_law_wordy" (spLWordy Γ.K) [] := by
  refine dfn.cl sc_lwordy (fun vs H Q E h => ?_) (fun f cdv A outer s H vs Q E hg h => ?_)
  · obtain ⟨b, n, m, rfl, _⟩ := h
    rfl
  obtain ⟨b, n, m, rfl, hb, m1, m2, q⟩ := h
  have nd := sc_lwordy.nd
  obtain ⟨v0, v1, v2, l2, g__law_names, g__law_pick, g__law_take⟩ := nm_lwordy
  refine ⟨_, (pss_cons (pst (i := 2) nd l2 (pcl c_law_pick hg (by omega) g__law_pick pass0 (pa_cons (ps 0 v0) (pa_cons (pe_lst (pa_cons pe_str (pa_cons pe_str (pa_cons pe_str (pa_cons pe_str (pa_cons pe_str pa_nil)))))) (pa_cons (pcl c_law_take hg (by omega) g__law_take pass0 (pa_cons (ps 0 v0) (pa_cons pe_int pa_nil))) pa_nil)))))
    (pss_one (ps_ret (pe_slice (WL.ok hg) (pe_op (k_add hg) (ps 2 v2) (pe_lc (own := [("_law_own", 3)]) rfl nd (pi_l hg (pcl c_law_names hg (by omega) g__law_names pass0 (pa_cons (ps 0 v0) (pa_cons (ps 1 v1) pa_nil)))) (blkOk_by (N := n_lwordy) (sc := defScope s_lwordy) (by decide +kernel)) (fun _ _ _ _ _ => (pg_name (i := 3) nd rfl (by first | exact .inl rfl | exact .inr rfl))) (fun _ _ _ _ _ => (pts_one (pt_cm (WO.ok hg.blk) (psr 3) (psr 2) (by with_unfolding_all rfl)))) (fun _ _ _ _ _ => (psr 3)))) po_none (po_pt (ps 1 v1)))))), ?_⟩
  refine st_start (σ := [some _, some _, none, none]) rfl ?_
  walk_at "dn"
  refine ⟨szl (by simp only [List.length_cons, List.length_nil]; omega), fun p0 hp0 => ?_⟩
  let ws5 : List Str := [Str.ofString "here", Str.ofString "always", Str.ofString "found", Str.ofString "marked", Str.ofString "same"]
  have nm5 : ∀ z ∈ ws5, Nm z := by
    have key : ∀ z ∈ ws5, 1 ≤ z.length ∧ z.length ≤ 8 ∧ ∀ c ∈ z.cps.toList, 97 ≤ c ∧ c ≤ 122 := by decide +kernel
    exact key
  have s0 : SS (E := E0v Γ.K) H [b] (upd H p0 (.lst (ws5.map V.str))) [] [lstR p0 (ws5.map V.str), boxR b (n + 600)] := (SS.box1 (E := E0v Γ.K) hb).newC hp0 (fun z => z)
  refine ⟨b, 2, n + 599, rfl, by omega, by omega, s0.box (by walk_at "mem"), fun r H1 r0 r1 f1 b1 => ?_⟩
  have s1 := s0.draw (n := n + 599) (by walk_at "pick") f1 b1
  obtain ⟨k, rfl, hk⟩ : ∃ k : Nat, r = k ∧ k ≤ 1 := ⟨r.toNat, by omega, by omega⟩
  refine ⟨b, .ref p0, ws5.map V.str, n + 599 - k, k, rfl, by rw [show n + 599 - k + k = n + 599 from by omega]; exact b1, by decide, .inl ⟨p0, rfl, SqL.of (s1.cell (by walk_at "mem"))⟩, fun p1 xs H2 hp1 f2 b2 hc2 hperm hlen => ?_⟩
  have s2 := s1.drawN (q := p1) (n := n + 599 - k) (by walk_at "pick") f2 b2 hp1 hc2 (fun z => z)
  refine ⟨b, n + 50, m, rfl, b2.less (by omega), by omega, fun p2 zs H3 hp2 f3 b3 hc3 hl3 nd3 nm3 => ?_⟩
  have s3 := s2.drawN (q := p2) (n := n + 50) (by walk_at "pick") f3 b3 hp2 hc3 (fun z => z)
  -- the words that were picked
  obtain ⟨us, rfl, hus⟩ : ∃ us : List Str, xs = us.map V.str ∧ ∀ z ∈ us, z ∈ ws5 := by
    obtain ⟨rr, hp⟩ := hperm
    have hx : ∀ v ∈ xs, ∃ z ∈ ws5, v = V.str z := fun v hv => by
      obtain ⟨z, hz, e⟩ := List.mem_map.mp (hp.subset (List.mem_append_left _ hv))
      exact ⟨z, hz, e.symm⟩
    clear hp hlen hc2 s2 s3
    induction xs with
    | nil => exact ⟨[], rfl, fun _ h => nomatch h⟩
    | cons x xs ih =>
      obtain ⟨z, hz, rfl⟩ := hx _ (.head _)
      obtain ⟨us, rfl, hu⟩ := ih fun v hv => hx v (.tail _ hv)
      exact ⟨z :: us, rfl, fun y hy => by cases hy with
        | head => exact hz
        | tail _ h => exact hu y h⟩
  have hul : us.length ≤ 1 := by rw [List.length_map] at hlen; omega
  refine ⟨p2, rfl, ⟨_, SqL.of (s3.cell (by walk_at "mem"))⟩, fun D hD => ?_⟩
  refine lq_it (walk_list (xs := zs.map V.str)) (fun i acc H' => SS (E := E0v Γ.K) H [b] H' [] [lstR D acc, lstR p2 (zs.map V.str), lstR p1 (us.map V.str), lstR p0 (ws5.map V.str), boxR b (n + 50)] ∧ ∃ as_ : List Str, acc = as_.map V.str ∧ ∀ z ∈ as_, z ∈ zs) ⟨s3.newC (o := .lst []) hD (fun z => z), [], rfl, fun _ h => nomatch h⟩ (fun i acc H' _ ⟨s, _⟩ => SqL.of (s.cell (by walk_at "mem"))) ?_ ?_
  · rintro i x acc H4 H5 hi hl2 ⟨s, as_, rfl, has⟩ ⟨rfl, hx⟩
    rw [List.getElem?_map] at hx
    obtain ⟨z, hz, rfl⟩ := Option.map_eq_some_iff.mp hx
    walk_at "dn"
    refine ⟨rfl, wo_niS (xs := us) (.inl (SqL.of (s.cell (by walk_at "mem")))) ?_⟩
    have hzz := List.mem_of_getElem? hz
    have hi2 : i < zs.length := by rw [List.length_map] at hi; exact hi
    walk_at "di"
    by_cases hm : z ∈ us
    · rw [decide_eq_true hm]
      exact ⟨as_.map V.str, by omega, s, as_, rfl, has⟩
    · rw [decide_eq_false hm]
      refine lq_add s hl2 (lt_size (by omega)) ⟨_, lq_len hl2, s.app, as_ ++ [z], by rw [List.map_append]; rfl, fun y hy => ?_⟩
      rcases List.mem_append.mp hy with h | h
      · exact has y h
      · rw [List.mem_singleton.mp h]; exact hzz
  · rintro acc H4 hl2 ⟨s, as_, rfl, has⟩
    rw [List.length_map] at hl2
    rw [List.length_map] at hl2
    refine wo_cat (s.cell (p := p1) (b := false) (by walk_at "mem")) (s.cell (p := D) (b := false) (by walk_at "mem")) (szl (by rw [List.length_map, List.length_map]; omega)) fun p4 hp4 => ?_
    rw [← List.map_append]
    have s5 := s.newC (o := .lst (us.map V.str ++ as_.map V.str)) hp4 (fun z => z)
    rw [← List.map_append] at s5
    refine wl_l (SqL.of (s5.cell (p := p4) (b := false) (by walk_at "mem"))) fun p5 hp5 => ?_
    rw [cut_to, ← List.map_take]
    have s6 := s5.newC (o := .lst (((us ++ as_).take m).map V.str)) hp5 (fun z => z)
    have h0 : H p5 = none := by
      cases e : H p5 with
      | none => rfl
      | some o =>
        have hb5 : p5 ≠ b := fun z => by
          obtain ⟨xs, e2⟩ := (s5.box (by walk_at "mem")).cell
          rw [z, e2] at hp5; cases hp5
        have := s5.fr _ _ (fun z => hb5 (List.mem_singleton.mp z)) e
        rw [this] at hp5; cases hp5
    refine q p5 _ _ h0 s6.fr ((s6.box (b := b) (n := n + 50) (by walk_at "mem")).less (by omega)) upd_same (by rw [List.length_take]; omega) fun z hz => ?_
    rcases List.mem_append.mp (List.mem_of_mem_take hz) with h | h
    · exact nm5 z (hus z h)
    · exact nm3 z (has z h)
theorem nm_of_B {z : Str} (h : nmB z.cps.toList = true) : Nm z := by
  unfold nmB at h
  have hl : z.cps.toList.length = z.length := by rw [Array.length_toList]; rfl
  rw [hl, Bool.and_eq_true, decide_eq_true_eq, List.all_eq_true] at h
  exact ⟨h.1.1, h.1.2, fun c hc => of_decide_eq_true (h.2 c hc)⟩
/-- a look, a test of these kinds and marks, by computation -/
def wfB (ks ms : List Str) : Bool → Tr → Bool
  | false, .z w => decide (w = Str.ofString "here")
  | true, .z w => decide (w = Str.ofString "always")
  | false, .st k d => decide (k ∈ ks) && decide (d = 1 ∨ d = -1)
  | true, .st _ _ => false
  | true, .mk k => decide (k ∈ ms)
  | false, .mk _ => false
  | true, .one w a => (decide (w = Str.ofString "found") && wfB ks ms false a) || (decide (w = Str.ofString "not") && wfB ks ms true a)
  | false, .one _ _ => false
  | false, .two w a b => (decide (w = Str.ofString "then" ∨ w = Str.ofString "or" ∨ w = Str.ofString "and") && (wfB ks ms false a && wfB ks ms false b)) || (decide (w = Str.ofString "when") && (wfB ks ms false a && wfB ks ms true b))
  | true, .two w a b => (decide (w = Str.ofString "same") && (wfB ks ms false a && wfB ks ms false b)) || (decide (w = Str.ofString "and" ∨ w = Str.ofString "or" ∨ w = Str.ofString "xor") && (wfB ks ms true a && wfB ks ms true b))
theorem wfB_ok {ks ms : List Str} : ∀ (t : Tr) (b : Bool), wfB ks ms b t = true → t.wf ks ms b
  | .z w, false, h => of_decide_eq_true (p := w = Str.ofString "here") h
  | .z w, true, h => of_decide_eq_true (p := w = Str.ofString "always") h
  | .st k d, false, h => by
    obtain ⟨h1, h2⟩ := He.ba (show (decide (k ∈ ks) && decide (d = 1 ∨ d = -1)) = true from h)
    exact ⟨of_decide_eq_true h1, of_decide_eq_true h2⟩
  | .st _ _, true, h => nomatch h
  | .mk k, true, h => of_decide_eq_true (p := k ∈ ms) h
  | .mk _, false, h => nomatch h
  | .one _ _, false, h => nomatch h
  | .one w a, true, h => by
    have h : ((decide (w = Str.ofString "found") && wfB ks ms false a) || (decide (w = Str.ofString "not") && wfB ks ms true a)) = true := h
    rw [Bool.or_eq_true, Bool.and_eq_true, Bool.and_eq_true, decide_eq_true_eq, decide_eq_true_eq] at h
    exact h.imp (fun h => ⟨h.1, wfB_ok a false h.2⟩) (fun h => ⟨h.1, wfB_ok a true h.2⟩)
  | .two w a b, false, h => by
    have h : ((decide (w = Str.ofString "then" ∨ w = Str.ofString "or" ∨ w = Str.ofString "and") && (wfB ks ms false a && wfB ks ms false b)) || (decide (w = Str.ofString "when") && (wfB ks ms false a && wfB ks ms true b))) = true := h
    rw [Bool.or_eq_true, Bool.and_eq_true, Bool.and_eq_true, Bool.and_eq_true, Bool.and_eq_true, decide_eq_true_eq, decide_eq_true_eq] at h
    exact h.imp (fun h => ⟨h.1, wfB_ok a false h.2.1, wfB_ok b false h.2.2⟩) (fun h => ⟨h.1, wfB_ok a false h.2.1, wfB_ok b true h.2.2⟩)
  | .two w a b, true, h => by
    have h : ((decide (w = Str.ofString "same") && (wfB ks ms false a && wfB ks ms false b)) || (decide (w = Str.ofString "and" ∨ w = Str.ofString "or" ∨ w = Str.ofString "xor") && (wfB ks ms true a && wfB ks ms true b))) = true := h
    rw [Bool.or_eq_true, Bool.and_eq_true, Bool.and_eq_true, Bool.and_eq_true, Bool.and_eq_true, decide_eq_true_eq, decide_eq_true_eq] at h
    exact h.imp (fun h => ⟨h.1, wfB_ok a false h.2.1, wfB_ok b false h.2.2⟩) (fun h => ⟨h.1, wfB_ok a true h.2.1, wfB_ok b true h.2.2⟩)
def wfC (ks ms : List Str) (b : Bool) (t : Tr) : Bool := wfB ks ms b t && (decide (t.dep ≤ 20) && decide ((shwB t b).length < 50000))
theorem wfB_all {ks ms : List Str} {b : Bool} {l : List Tr} (h : l.all (wfC ks ms b) = true) : ∀ t ∈ l, t.wf ks ms b ∧ t.dep ≤ 20 ∧ (shwB t b).length < 50000 := fun t ht => by
  obtain ⟨h1, h2⟩ := He.ba (List.all_eq_true.mp h t ht)
  obtain ⟨h2, h3⟩ := He.ba h2
  exact ⟨wfB_ok t b h1, of_decide_eq_true h2, of_decide_eq_true h3⟩
theorem LkP.frL {K : PySem.W.Frag} {H H' : Hp} {C b a : Addr} {xs : List V} {t : Tr} (h : LkP K H C t a) (f : Fr [b] H H') (hb : H b = some (.lst xs)) : LkP K H' C t a := by
  obtain ⟨dx, p, e, ht⟩ := h
  exact ⟨dx, p, f _ _ (fun z => by rw [List.mem_singleton.mp z, hb] at e; cases e) e, ht.fr f hb⟩
def spHandR : Sp := fun vs H Q _ => vs = [] ∧ ∀ H', Same H H' → Q (.bl true) H'
theorem nm_len {k : Str} (h : Nm k) : k.cps.toList.length ≤ 8 := by rw [Array.length_toList]; exact h.2.1
theorem brk_len (b : Bool) (l : List (List Nat)) : (brk b l).length ≤ l.length + 2 := by
  unfold brk
  split
  · simp only [List.length_append, List.length_cons, List.length_nil]; omega
  · omega
theorem sgnOf_len (w : Str) : (sgnOf w).length ≤ 2 := by
  unfold sgnOf
  split
  · decide +kernel
  split
  · decide +kernel
  split
  · decide +kernel
  · decide +kernel
theorem size_brk : ∀ t : Tr, t.size ≤ t.brk + 1
  | .z _ => Nat.le_refl _
  | .st _ _ => Nat.le_refl _
  | .mk _ => by show 1 ≤ 1 + 1; omega
  | .one _ a => by have := size_brk a; show a.size + 1 ≤ a.brk + 1 + 1; omega
  | .two _ a b => by have := size_brk a; have := size_brk b; show a.size + b.size + 1 ≤ a.brk + b.brk + 2 + 1; omega
/-- no long text, not many symbols -/
theorem tok_size {ks ms : List Str} (hk : ∀ k ∈ ks, Nm k) (hm : ∀ k ∈ ms, Nm k) : ∀ (t : Tr) (a : Bool), t.wf ks ms a → (tokB t a).length ≤ 6 * t.size ∧ (shwB t a).length ≤ 16 * t.size
  | .z w, false, h => by
    obtain rfl : w = Str.ofString "here" := h
    decide +kernel
  | .z w, true, h => by
    obtain rfl : w = Str.ofString "always" := h
    decide +kernel
  | .st k d, false, h => by
    have := nm_len (hk k h.1)
    refine ⟨by show 1 ≤ 6 * 1; omega, ?_⟩
    show k.cps.toList.length + 1 ≤ 16 * 1
    omega
  | .st _ _, true, h => h.elim
  | .mk k, true, h => by
    have := nm_len (hm k h)
    refine ⟨by show 4 ≤ 6 * 1; omega, ?_⟩
    show (wd "marked(" ++ k.cps.toList ++ wd ")").length ≤ 16 * 1
    rw [List.length_append, List.length_append, show (wd "marked(").length = 7 from by decide +kernel, show (wd ")").length = 1 from by decide +kernel]
    omega
  | .mk _, false, h => h.elim
  | .one _ _, false, h => h.elim
  | .one w x, true, h => by
    show _ ≤ 6 * (x.size + 1) ∧ _ ≤ 16 * (x.size + 1)
    rcases h with ⟨e, hx⟩ | ⟨e, hx⟩
    · obtain rfl : w = Str.ofString "found" := e
      have ih := tok_size hk hm x false hx
      rw [tokB, shwB, if_pos rfl, if_pos rfl]
      simp only [List.length_append, List.length_cons, List.length_nil, show (wd "found(").length = 6 from by decide +kernel, show (wd ")").length = 1 from by decide +kernel]
      omega
    · obtain rfl : w = Str.ofString "not" := e
      have ih := tok_size hk hm x true hx
      rw [tokB, shwB, if_neg (by decide +kernel), if_neg (by decide +kernel)]
      have h1 := brk_len (decide (rnkW true x.word < 3)) (tokB x true)
      have h2 := brkS_len (decide (rnkW true x.word < 3)) (shwB x true)
      simp only [List.length_append, List.length_cons, List.length_nil, show (wd "~").length = 1 from by decide +kernel]
      omega
  | .two w x y, a, h => by
    show _ ≤ 6 * (x.size + y.size + 1) ∧ _ ≤ 16 * (x.size + y.size + 1)
    by_cases n1 : w = Str.ofString "same"
    · obtain ⟨hx, hy⟩ : x.wf ks ms false ∧ y.wf ks ms false := by
        cases a with
        | false => rcases h with ⟨e | e | e, _⟩ | ⟨e, _⟩ <;> (rw [n1] at e; exact absurd e (by decide +kernel))
        | true =>
          rcases h with ⟨_, h⟩ | ⟨e | e | e, _⟩
          · exact h
          all_goals (rw [n1] at e; exact absurd e (by decide +kernel))
      have i1 := tok_size hk hm x false hx
      have i2 := tok_size hk hm y false hy
      rw [tokB, shwB_two, if_pos n1, if_pos n1]
      simp only [List.length_append, List.length_cons, List.length_nil, show (wd "same(").length = 5 from by decide +kernel, show (wd ", ").length = 2 from by decide +kernel, show (wd ")").length = 1 from by decide +kernel]
      omega
    by_cases n2 : w = Str.ofString "when"
    · obtain ⟨hx, hy⟩ : x.wf ks ms false ∧ y.wf ks ms true := by
        cases a with
        | true => rcases h with ⟨e, _⟩ | ⟨e | e | e, _⟩ <;> (rw [n2] at e; exact absurd e (by decide +kernel))
        | false =>
          rcases h with ⟨e | e | e, _⟩ | ⟨_, h⟩
          · rw [n2] at e; exact absurd e (by decide +kernel)
          · rw [n2] at e; exact absurd e (by decide +kernel)
          · rw [n2] at e; exact absurd e (by decide +kernel)
          · exact h
      have i1 := tok_size hk hm x false hx
      have i2 := tok_size hk hm y true hy
      have h1 := brk_len (decide (rnkW false x.word < 3)) (tokB x false)
      have h2 := brkS_len (decide (rnkW false x.word < 3)) (shwB x false)
      rw [tokB, shwB_two, if_neg n1, if_neg n1, if_pos n2, if_pos n2]
      simp only [List.length_append, List.length_cons, List.length_nil, show (wd "[").length = 1 from by decide +kernel, show (wd "] ").length = 2 from by decide +kernel]
      omega
    · obtain ⟨hx, hy⟩ : x.wf ks ms a ∧ y.wf ks ms a := by
        cases a with
        | true =>
          rcases h with ⟨e, _⟩ | ⟨_, h⟩
          · exact absurd e n1
          · exact h
        | false =>
          rcases h with ⟨_, h⟩ | ⟨e, _⟩
          · exact h
          · exact absurd e n2
      have i1 := tok_size hk hm x a hx
      have i2 := tok_size hk hm y a hy
      have h1 := brk_len (decide (rnkW a x.word < rnkW a w)) (tokB x a)
      have h2 := brk_len (decide (rnkW a y.word < rnkW a w + 1)) (tokB y a)
      have h3 := brkS_len (decide (rnkW a x.word < rnkW a w)) (shwB x a)
      have h4 := brkS_len (decide (rnkW a y.word < rnkW a w + 1)) (shwB y a)
      have h5 := sgnOf_len w
      rw [tokB, shwB_two, if_neg n1, if_neg n1, if_neg n2, if_neg n2]
      simp only [List.length_append, List.length_cons, List.length_nil, show (wd " ").length = 1 from by decide +kernel]
      omega
theorem few_tr : ∀ t : Tr, few t.data
  | .z _ => ⟨(by simp), trivial, trivial⟩
  | .st _ _ => ⟨(by simp), trivial, trivial, trivial, trivial⟩
  | .mk _ => ⟨(by simp), trivial, trivial, trivial⟩
  | .one _ a => ⟨(by simp), trivial, few_tr a, trivial⟩
  | .two _ a b => ⟨(by simp), trivial, few_tr a, few_tr b, trivial⟩
/-- what is known of a drawn formula -/
structure F45 (ks ms : List Str) (a : Bool) (t : Tr) : Prop where
  wf : t.wf ks ms a
  dep : t.dep ≤ 16
  ok : t.ok
  tl : (tokB t a).length < 40000
  sl : (shwB t a).length < 40000
  wr : wr (tokB t a) = shwB t a
  rd : readT 33 a (shwB t a) = some (.ok t [([], (shwB t a).length)])
theorem F45.of {ks ms : List Str} {a : Bool} {t : Tr} {m : Nat} (g : Gd ks ms a m t) (h5 : m ≤ 5) (hk : ∀ k ∈ ks, Nm k) (hm : ∀ k ∈ ms, Nm k) : F45 ks ms a t := by
  have hb : t.brk ≤ 32 := by
    cases a with
    | false =>
      have h : t.brk + 5 ≤ 7 * m := g.br
      omega
    | true =>
      have h : t.brk + 3 ≤ 7 * m := g.br
      omega
  have hs := size_brk t
  obtain ⟨h1, h2⟩ := tok_size hk hm t a g.wf
  have hw := wr_tok hk hm t a g.wf
  refine ⟨g.wf, ?_, Tr.wf_ok (fun k h => (hk k h).ok) (fun k h => (hm k h).ok) t a g.wf, by omega, by omega, hw, ?_⟩
  · have hd := g.dep
    cases a with
    | false =>
      rw [if_neg (by decide), if_neg (by decide)] at hd
      omega
    | true =>
      rw [if_pos rfl, if_pos rfl] at hd
      omega
  · have d := tok_der (tokB_der hk hm t a g.wf) 0
    rw [tok_0] at d
    have := read_wr d (o := 33) (by have := opens_tok hm t a g.wf; omega)
    rw [hw] at this
    exact this
theorem _root_.G.Box.same {b : Addr} {n : Nat} {H H' : Hp} (h : Box b n H) (s : Same H H') : Box b n H' := by
  obtain ⟨i, j, k, e, r⟩ := h
  exact ⟨i, j, k, s _ _ e, r⟩
def spRight45 : Sp := fun vs H Q _ => ∃ (b : Addr) (n : Nat), vs = [.ref b] ∧ Box b (n + 9000) H ∧ ∀ H', Fr [b] H H' → Box b n H' → Q (.bl true) H'
/-! ### what is read is derivable -/
/-- symbols as lexing gives them: the last one is none -/
def VsL (l : List Sy) : Prop := ∀ x ∈ l, x.1 = [] ∨ Vs x.1
theorem VsL.drop {l : List Sy} (h : VsL l) (k : Nat) : VsL (l.drop k) := fun x hx => h x (List.mem_of_mem_drop hx)
theorem VsL.hd {l : List Sy} (h : VsL l) (n : hdS l ≠ []) : Vs (hdS l) := by
  cases l with
  | nil => exact absurd rfl n
  | cons x r => exact (h x (.head _)).resolve_left n
/-- a sound reading: it takes k symbols (one at least) that make the tree -/
def Snd (a : Bool) (n : Nat) (l : List Sy) (r : Option Rs) : Prop := ∀ t l', r = some (.ok t l') → ∃ k, 0 < k ∧ k < l.length ∧ l' = l.drop k ∧ Der a n ((l.take k).map Prod.fst) t
theorem hd_take {l : List Sy} (h : hdS l ≠ []) : l = (hdS l, hdP l) :: l.tail := by
  cases l with
  | nil => exact absurd rfl h
  | cons x r => rfl
/-- the symbols end in none -/
def TmL (l : List Sy) : Prop := ∃ e, l.getLast? = some ([], e)
theorem TmL.pos {l : List Sy} (h : TmL l) : 0 < l.length := by
  obtain ⟨e, h⟩ := h
  cases l with
  | nil => simp at h
  | cons x r => simp
theorem TmL.drop {l : List Sy} (h : TmL l) {k : Nat} (hk : k < l.length) : TmL (l.drop k) := by
  obtain ⟨e, h⟩ := h
  refine ⟨e, ?_⟩
  rw [List.getLast?_drop, if_neg (by omega)]
  exact h
theorem TmL.one {l : List Sy} (h : TmL l) (n : hdS l ≠ []) : 1 < l.length := by
  obtain ⟨e, h⟩ := h
  match l, h with
  | [x], h =>
    simp only [List.getLast?_singleton, Option.some.injEq] at h
    subst h
    exact absurd rfl n
  | _ :: _ :: _, _ => simp
theorem needR_s {s : List Nat} {l : List Sy} {k : List Sy → Option Rs} {t : Tr} {l' : List Sy} (h : needR s l k = some (.ok t l')) : hdS l = s ∧ k l.tail = some (.ok t l') := by
  unfold needR at h
  split at h
  · rename_i e; exact ⟨e, h⟩
  · cases h
theorem bindR_s {r : Option Rs} {k : Tr → List Sy → Option Rs} {t : Tr} {l' : List Sy} (h : bindR r k = some (.ok t l')) : ∃ t1 l1, r = some (.ok t1 l1) ∧ k t1 l1 = some (.ok t l') := by
  rcases r with _ | ⟨t1, l1⟩ | a
  · cases h
  · exact ⟨t1, l1, rfl, h⟩
  · cases h
theorem tail_d (l : List Sy) : l.tail = l.drop 1 := List.drop_one.symm
theorem take_hd {l : List Sy} {s : List Nat} (h : hdS l = s) (n : s ≠ []) : (l.take 1).map Prod.fst = [s] ∧ 0 < l.length := by
  cases l with
  | nil => exact absurd h.symm n
  | cons x r => exact ⟨by simp; exact h, by simp⟩
theorem take_add_map (l : List Sy) (i j : Nat) : (l.take (i + j)).map Prod.fst = (l.take i).map Prod.fst ++ ((l.drop i).take j).map Prod.fst := by
  rw [List.take_add, List.map_append]
/-- a symbol that stands next -/
theorem next_hd {l : List Sy} {i : Nat} {s : List Nat} (h : hdS (l.drop i) = s) (n : s ≠ []) : (l.take (i + 1)).map Prod.fst = (l.take i).map Prod.fst ++ [s] ∧ i < l.length := by
  obtain ⟨h1, h2⟩ := take_hd h n
  rw [List.length_drop] at h2
  exact ⟨by rw [take_add_map, h1], by omega⟩
section
variable {R : Bool → List Sy → Option Rs}
/-- all that is asked of R, at symbols that end in none -/
def SndR (R : Bool → List Sy → Option Rs) : Prop := ∀ a l, VsL l → TmL l → Snd a 4 l (R a l)
theorem sgL_snd (hR : SndR R) {l : List Sy} (v : VsL l) (tm : TmL l) : Snd false 0 l (sgL R l) := by
  intro t l' h
  unfold sgL at h
  split at h
  · rename_i e
    cases h
    obtain ⟨h1, h2⟩ := take_hd e (by decide +kernel)
    exact ⟨1, by omega, tm.one (by rw [e]; decide +kernel), tail_d l, by rw [h1]; exact .here⟩
  split at h
  · rename_i e
    obtain ⟨t1, l1, h1, h⟩ := bindR_s h
    obtain ⟨e2, h⟩ := needR_s h
    cases h
    obtain ⟨hd1, _⟩ := take_hd e (by decide +kernel)
    have tm1 := tm.drop (tm.one (by rw [e]; decide +kernel))
    rw [tail_d] at h1
    obtain ⟨k, k0, k1, rfl, d⟩ := hR false _ (v.drop 1) tm1 _ _ h1
    rw [List.drop_drop] at e2 ⊢
    obtain ⟨n1, n2⟩ := next_hd e2 (by decide +kernel)
    refine ⟨1 + k + 1, by omega, ?_, by rw [tail_d, List.drop_drop], ?_⟩
    · have := (tm.drop n2).one (by rw [e2]; decide +kernel)
      rw [List.length_drop] at this
      omega
    · rw [n1, take_add_map, hd1]
      exact .par d
  split at h
  · rename_i n1 n2 hpm
    cases h
    have hne : hdS l ≠ [] := fun z => by rw [z] at hpm; simp at hpm
    have hv := v.hd hne
    obtain ⟨c, s, hs⟩ : ∃ c s, hdS l = c :: s := by
      cases e : hdS l with
      | nil => exact absurd e hne
      | cons c s => exact ⟨c, s, rfl⟩
    rw [hs] at hpm hv
    have hc : c = 43 ∨ c = 45 := by simpa using hpm
    refine ⟨1, by omega, tm.one hne, tail_d l, ?_⟩
    rw [(take_hd hs (by simp)).1, hs]
    cases hv with
    | sgn h =>
      have := sgnB_noL h
      omega
    | go => omega
    | word h1 h2 h3 =>
      have := (isL_no (h3 c (.head _))).2.2.2
      exact absurd hc this
    | step _ h1 h2 h3 =>
      have nmk : Nm (tx s) := ⟨by rw [tx_len]; exact h1, by rw [tx_len]; exact h2, fun x hx => by rw [tx_cps] at hx; exact of_decide_eq_true (h3 x hx)⟩
      have hd : (if (c :: s).head? = some 43 then (1 : Int) else -1) = 1 ∧ c = 43 ∨ (if (c :: s).head? = some 43 then (1 : Int) else -1) = -1 ∧ c = 45 := by
        rcases hc with rfl | rfl
        · exact .inl ⟨rfl, rfl⟩
        · exact .inr ⟨rfl, rfl⟩
      rcases hd with ⟨e1, rfl⟩ | ⟨e1, rfl⟩
      · have d := Der.step (k := tx s) (d := 1) nmk (.inl rfl)
        rw [tx_cps] at d
        rw [e1]
        exact d
      · have d := Der.step (k := tx s) (d := -1) nmk (.inr rfl)
        rw [tx_cps] at d
        rw [e1]
        exact d
  · cases h
theorem nmB_nm {s : List Nat} (h : nmB s = true) : Nm (tx s) ∧ s ≠ [] := by
  have h' : nmB (tx s).cps.toList = true := by rw [tx_cps]; exact h
  refine ⟨nm_of_B h', fun z => ?_⟩
  rw [z] at h
  cases h
theorem sgT_snd (hR : SndR R) {l : List Sy} (v : VsL l) (tm : TmL l) : Snd true 0 l (sgT R l) := by
  intro t l' h
  unfold sgT at h
  split at h
  · rename_i e
    cases h
    obtain ⟨h1, h2⟩ := take_hd e (by decide +kernel)
    exact ⟨1, by omega, tm.one (by rw [e]; decide +kernel), tail_d l, by rw [h1]; exact .always⟩
  split at h
  · rename_i e
    obtain ⟨t1, l1, h1, h⟩ := bindR_s h
    obtain ⟨e2, h⟩ := needR_s h
    cases h
    obtain ⟨hd1, _⟩ := take_hd e (by decide +kernel)
    have tm1 := tm.drop (tm.one (by rw [e]; decide +kernel))
    rw [tail_d] at h1
    obtain ⟨k, k0, k1, rfl, d⟩ := hR true _ (v.drop 1) tm1 _ _ h1
    rw [List.drop_drop] at e2 ⊢
    obtain ⟨n1, n2⟩ := next_hd e2 (by decide +kernel)
    refine ⟨1 + k + 1, by omega, ?_, by rw [tail_d, List.drop_drop], ?_⟩
    · have := (tm.drop n2).one (by rw [e2]; decide +kernel)
      rw [List.length_drop] at this
      omega
    · rw [n1, take_add_map, hd1]
      exact .par d
  split at h
  · rename_i e
    obtain ⟨e2, h⟩ := needR_s h
    split at h
    · rename_i hn
      obtain ⟨e3, h⟩ := needR_s h
      cases h
      obtain ⟨nmk, hne⟩ := nmB_nm hn
      rw [tail_d] at e2
      rw [tail_d, tail_d, List.drop_drop] at hne nmk hn ⊢
      rw [tail_d, tail_d, tail_d, List.drop_drop, List.drop_drop] at e3
      obtain ⟨hd1, _⟩ := take_hd e (by decide +kernel)
      obtain ⟨hd2, p2⟩ := next_hd e2 (by decide +kernel)
      obtain ⟨hd3, p3⟩ := next_hd (i := 1 + 1) rfl hne
      obtain ⟨hd4, p4⟩ := next_hd (i := 1 + 1 + 1) e3 (by decide +kernel)
      refine ⟨1 + 1 + 1 + 1, by omega, ?_, by rw [tail_d, tail_d, List.drop_drop, List.drop_drop], ?_⟩
      · have := (tm.drop p4).one (by rw [e3]; decide +kernel)
        rw [List.length_drop] at this
        omega
      · rw [hd4, hd3, hd2, hd1]
        have d := Der.marked nmk
        rw [tx_cps] at d
        rw [show l.tail.tail = l.drop (1 + 1) from by rw [tail_d, tail_d, List.drop_drop]]
        exact d
    · cases h
  split at h
  · rename_i e
    obtain ⟨e2, h⟩ := needR_s h
    obtain ⟨t1, l1, h1, h⟩ := bindR_s h
    obtain ⟨e3, h⟩ := needR_s h
    cases h
    rw [tail_d] at e2
    rw [tail_d, tail_d, List.drop_drop] at h1
    obtain ⟨hd1, _⟩ := take_hd e (by decide +kernel)
    obtain ⟨hd2, p2⟩ := next_hd e2 (by decide +kernel)
    have q2 := (tm.drop p2).one (by rw [e2]; decide +kernel)
    rw [List.length_drop] at q2
    obtain ⟨k, k0, k1, rfl, d⟩ := hR false _ (v.drop (1 + 1)) (tm.drop (by omega)) _ _ h1
    rw [List.drop_drop] at e3 ⊢
    obtain ⟨n1, n2⟩ := next_hd e3 (by decide +kernel)
    refine ⟨1 + 1 + k + 1, by omega, ?_, by rw [tail_d, List.drop_drop], ?_⟩
    · have := (tm.drop n2).one (by rw [e3]; decide +kernel)
      rw [List.length_drop] at this
      omega
    · rw [n1, take_add_map, hd2, hd1]
      exact .found d
  split at h
  · rename_i e
    obtain ⟨e2, h⟩ := needR_s h
    obtain ⟨t1, l1, h1, h⟩ := bindR_s h
    obtain ⟨e3, h⟩ := needR_s h
    obtain ⟨t2, l2, h2, h⟩ := bindR_s h
    obtain ⟨e4, h⟩ := needR_s h
    cases h
    rw [tail_d] at e2
    rw [tail_d, tail_d, List.drop_drop] at h1
    obtain ⟨hd1, _⟩ := take_hd e (by decide +kernel)
    obtain ⟨hd2, p2⟩ := next_hd e2 (by decide +kernel)
    have q2 := (tm.drop p2).one (by rw [e2]; decide +kernel)
    rw [List.length_drop] at q2
    obtain ⟨k, k0, k1, rfl, d⟩ := hR false _ (v.drop (1 + 1)) (tm.drop (by omega)) _ _ h1
    rw [List.drop_drop] at e3 h2
    obtain ⟨n1, n2⟩ := next_hd e3 (by decide +kernel)
    have q3 := (tm.drop n2).one (by rw [e3]; decide +kernel)
    rw [List.length_drop] at q3
    rw [tail_d, List.drop_drop] at h2
    obtain ⟨j, j0, j1, rfl, d2⟩ := hR false _ (v.drop (1 + 1 + k + 1)) (tm.drop (by omega)) _ _ h2
    rw [List.drop_drop] at e4 ⊢
    obtain ⟨m1, m2⟩ := next_hd e4 (by decide +kernel)
    refine ⟨1 + 1 + k + 1 + j + 1, by omega, ?_, by rw [tail_d, List.drop_drop], ?_⟩
    · have := (tm.drop m2).one (by rw [e4]; decide +kernel)
      rw [List.length_drop] at this
      omega
    · rw [m1, take_add_map, n1, take_add_map, hd2, hd1]
      exact .same d d2
  · cases h
end
section
variable {R : Bool → List Sy → Option Rs}
theorem whens_der {acc : List Tr} {t : Tr} : whens acc t = acc.foldr (fun x t => .two "when" t x) t := rfl
/-- behind guards: what stood ahead of them is put ahead -/
theorem gdR_snd (hR : SndR R) : ∀ (m : Nat) (acc : List Tr) (l : List Sy), VsL l → TmL l → ∀ t l', gdR R m acc l = some (.ok t l') → ∃ k u, 0 < k ∧ k < l.length ∧ l' = l.drop k ∧ t = whens acc u ∧ Der false 1 ((l.take k).map Prod.fst) u := by
  intro m
  induction m with
  | zero => intro acc l _ _ t l' h; cases h
  | succ m ih =>
    intro acc l v tm t l' h
    unfold gdR at h
    split at h
    · rename_i e
      obtain ⟨t1, l1, h1, h⟩ := bindR_s h
      obtain ⟨e2, h⟩ := needR_s h
      obtain ⟨hd1, _⟩ := take_hd e (by decide +kernel)
      have tm1 := tm.drop (tm.one (by rw [e]; decide +kernel))
      rw [tail_d] at h1
      obtain ⟨k, k0, k1, rfl, d⟩ := hR true _ (v.drop 1) tm1 _ _ h1
      rw [List.drop_drop] at e2 h
      obtain ⟨n1, n2⟩ := next_hd e2 (by decide +kernel)
      have q := (tm.drop n2).one (by rw [e2]; decide +kernel)
      rw [List.length_drop] at q
      rw [tail_d, List.drop_drop] at h
      obtain ⟨j, u, j0, j1, rfl, hu, d2⟩ := ih _ _ (v.drop _) (tm.drop (by omega)) _ _ h
      rw [List.length_drop] at j1
      refine ⟨1 + k + 1 + j, .two "when" u t1, by omega, by omega, by rw [List.drop_drop], by rw [hu, whens_snoc], ?_⟩
      rw [take_add_map, n1, take_add_map, hd1]
      exact .when d d2
    · obtain ⟨t1, l1, h1, h⟩ := bindR_s h
      cases h
      obtain ⟨k, k0, k1, rfl, d⟩ := sgL_snd hR v tm _ _ h1
      exact ⟨k, t1, k0, k1, rfl, rfl, d.up (by omega)⟩
theorem tnR_snd (hR : SndR R) : ∀ (m c : Nat) (l : List Sy), VsL l → TmL l → ∀ t l', tnR R m c l = some (.ok t l') → ∃ k u, 0 < k ∧ k < l.length ∧ l' = l.drop k ∧ t = nots c u ∧ Der true 1 ((l.take k).map Prod.fst) u := by
  intro m
  induction m with
  | zero => intro c l _ _ t l' h; cases h
  | succ m ih =>
    intro c l v tm t l' h
    unfold tnR at h
    split at h
    · rename_i e
      obtain ⟨hd1, p1⟩ := take_hd e (by decide +kernel)
      have q := tm.one (by rw [e]; decide +kernel)
      rw [tail_d] at h
      obtain ⟨k, u, k0, k1, rfl, hu, d⟩ := ih _ _ (v.drop 1) (tm.drop q) _ _ h
      rw [List.length_drop] at k1
      refine ⟨1 + k, .one "not" u, by omega, by omega, by rw [List.drop_drop], by rw [hu, nots_s], ?_⟩
      rw [take_add_map, hd1]
      exact .not d
    · obtain ⟨t1, l1, h1, h⟩ := bindR_s h
      cases h
      obtain ⟨k, k0, k1, rfl, d⟩ := sgT_snd hR v tm _ _ h1
      exact ⟨k, t1, k0, k1, rfl, rfl, d.up (by omega)⟩
theorem lpR_snd {a : Bool} {n : Nat} {f : List Sy → Option Rs} (hn : n < 3) (hf : ∀ l, VsL l → TmL l → Snd a (n + 1) l (f l)) : ∀ (m : Nat) (t0 : Tr) (l0 : List Sy) (k0 : Nat), VsL l0 → TmL l0 → k0 < l0.length → Der a (n + 2) ((l0.take k0).map Prod.fst) t0 →
    ∀ t l', lpR f (sgI a (n + 2)) (wdI a (n + 2)) m t0 (l0.drop k0) = some (.ok t l') → ∃ k, k0 ≤ k ∧ k < l0.length ∧ l' = l0.drop k ∧ Der a (n + 2) ((l0.take k).map Prod.fst) t := by
  intro m
  induction m with
  | zero => intro t0 l0 k0 _ _ _ _ t l' h; cases h
  | succ m ih =>
    intro t0 l0 k0 v tm hk d t l' h
    unfold lpR at h
    split at h
    · rename_i e
      obtain ⟨t1, l1, h1, h⟩ := bindR_s h
      have hne : sgI a (n + 2) ≠ [] := by
        have : n = 0 ∨ n = 1 ∨ n = 2 := by omega
        rcases this with rfl | rfl | rfl <;> cases a <;> decide +kernel
      obtain ⟨n1, n2⟩ := next_hd e hne
      have q := (tm.drop n2).one (by rw [e]; exact hne)
      rw [List.length_drop] at q
      rw [tail_d, List.drop_drop] at h1
      obtain ⟨j, j0, j1, rfl, d2⟩ := hf _ (v.drop (k0 + 1)) (tm.drop (by omega)) _ _ h1
      rw [List.length_drop] at j1
      rw [List.drop_drop] at h
      obtain ⟨k, hk1, hk2, e2, d3⟩ := ih _ l0 (k0 + 1 + j) v tm (by omega) (by rw [take_add_map, n1]; exact .bin hn d d2) _ _ h
      exact ⟨k, by omega, hk2, e2, d3⟩
    · cases h
      exact ⟨k0, Nat.le_refl _, hk, rfl, d⟩
theorem rdK_snd (hR : SndR R) (a : Bool) : ∀ (n : Nat), n ≤ 3 → ∀ l, VsL l → TmL l → Snd a (n + 1) l (rdK R a n l)
  | 0, _, l, v, tm => by
    intro t l' h
    cases a with
    | true =>
      obtain ⟨k, u, k0, k1, e, hu, d⟩ := tnR_snd hR _ _ _ v tm _ _ (show tnR R (l.length + 1) 0 l = _ from h)
      subst hu
      exact ⟨k, k0, k1, e, d⟩
    | false =>
      obtain ⟨k, u, k0, k1, e, hu, d⟩ := gdR_snd hR _ _ _ v tm _ _ (show gdR R (l.length + 1) [] l = _ from h)
      subst hu
      exact ⟨k, k0, k1, e, d⟩
  | n + 1, hn, l, v, tm => by
    intro t l' h
    have h : levR (rdK R a n) (sgA a (2 - n)) (wdA a (2 - n)) l = some (.ok t l') := h
    unfold levR at h
    obtain ⟨t1, l1, h1, h⟩ := bindR_s h
    obtain ⟨k, k0, k1, rfl, d⟩ := rdK_snd hR a n (by omega) l v tm _ _ h1
    have e1 : sgA a (2 - n) = sgI a (n + 2) := by unfold sgI; rw [show 4 - (n + 2) = 2 - n from by omega]
    have e2 : wdA a (2 - n) = wdI a (n + 2) := by unfold wdI; rw [show 4 - (n + 2) = 2 - n from by omega]
    rw [e1, e2] at h
    obtain ⟨j, j0, j1, e, d2⟩ := lpR_snd (by omega) (fun l v tm => rdK_snd hR a n (by omega) l v tm) _ _ l k v tm k1 (d.up (by omega)) _ _ h
    exact ⟨j, by omega, j1, e, d2⟩
end
theorem rd_snd : ∀ o, SndR (rd o)
  | 0 => fun a l _ _ t l' h => nomatch h
  | o + 1 => fun a l v tm => rdK_snd (rd_snd o) a 3 (Nat.le_refl _) l v tm
/-! ### a reading ends -/
/-- brackets opened in what is left -/
def opL (l : List Sy) : Nat := opens (l.map Prod.fst)
theorem opL_drop (l : List Sy) (k : Nat) : opL (l.drop k) ≤ opL l := by
  have : l = l.take k ++ l.drop k := (List.take_append_drop k l).symm
  unfold opL
  conv => rhs; rw [this, List.map_append, opens_app]
  omega
theorem opL_tail {l : List Sy} {s : List Nat} (h : hdS l = s) (n : s = wd "(" ∨ s = wd "[") : opL l.tail + 1 ≤ opL l := by
  cases l with
  | nil =>
    have e : ([] : List Nat) = s := h
    rcases n with rfl | rfl <;> exact absurd e (by decide +kernel)
  | cons x r =>
    have e : x.1 = s := h
    unfold opL
    show opens (r.map Prod.fst) + 1 ≤ opens (x.1 :: r.map Prod.fst)
    rw [opens_1, e, if_pos n]
    exact Nat.le_refl _
def TotR (R : Bool → List Sy → Option Rs) (o : Nat) : Prop := ∀ a l, VsL l → TmL l → opL l < o → R a l ≠ none
theorem bindR_n {r : Option Rs} {k : Tr → List Sy → Option Rs} (h : r ≠ none) (h2 : ∀ t l, r = some (.ok t l) → k t l ≠ none) : bindR r k ≠ none := by
  rcases r with _ | ⟨t, l⟩ | a
  · exact absurd rfl h
  · exact h2 t l rfl
  · intro z; cases z
theorem needR_n {s : List Nat} {l : List Sy} {k : List Sy → Option Rs} (h : hdS l = s → k l.tail ≠ none) : needR s l k ≠ none := by
  unfold needR
  split
  · rename_i e; exact h e
  · intro z; cases z
section
variable {R : Bool → List Sy → Option Rs} {o : Nat}
theorem sgL_tot (hS : SndR R) (hT : TotR R o) {l : List Sy} (v : VsL l) (tm : TmL l) (ho : opL l ≤ o) : sgL R l ≠ none := by
  unfold sgL
  split
  · intro z; cases z
  split
  · rename_i e
    have h1 := opL_tail e (.inl rfl)
    refine bindR_n ?_ fun t l' _ => needR_n fun _ z => by cases z
    rw [tail_d] at h1 ⊢
    exact hT false _ (v.drop 1) (tm.drop (tm.one (by rw [e]; decide +kernel))) (by omega)
  split
  · intro z; cases z
  · intro z; cases z
theorem sgT_tot (hS : SndR R) (hT : TotR R o) {l : List Sy} (v : VsL l) (tm : TmL l) (ho : opL l ≤ o) : sgT R l ≠ none := by
  have br : ∀ {i : Nat}, hdS (l.drop i) = wd "(" → VsL (l.drop (i + 1)) ∧ TmL (l.drop (i + 1)) ∧ opL (l.drop (i + 1)) < o := fun {i} e => by
    obtain ⟨_, n2⟩ := next_hd e (by decide +kernel)
    have q := (tm.drop n2).one (by rw [e]; decide +kernel)
    rw [List.length_drop] at q
    have h1 := opL_tail e (.inl rfl)
    have h2 := opL_drop l i
    rw [tail_d, List.drop_drop] at h1
    exact ⟨v.drop _, tm.drop (by omega), by omega⟩
  unfold sgT
  split
  · intro z; cases z
  split
  · rename_i e
    refine bindR_n ?_ fun t l' _ => needR_n fun _ z => by cases z
    obtain ⟨b1, b2, b3⟩ := br (i := 0) e
    rw [tail_d]
    exact hT true _ b1 b2 b3
  split
  · refine needR_n fun _ => ?_
    split
    · exact needR_n fun _ z => by cases z
    · intro z; cases z
  split
  · refine needR_n fun e2 => bindR_n ?_ fun t l' _ => needR_n fun _ z => by cases z
    rw [tail_d] at e2
    obtain ⟨b1, b2, b3⟩ := br (i := 1) e2
    rw [tail_d, tail_d, List.drop_drop]
    exact hT false _ b1 b2 b3
  split
  · refine needR_n fun e2 => ?_
    rw [tail_d] at e2
    obtain ⟨b1, b2, b3⟩ := br (i := 1) e2
    rw [tail_d, tail_d, List.drop_drop]
    refine bindR_n (hT false _ b1 b2 b3) fun t l' h1 => needR_n fun e3 => bindR_n ?_ fun _ _ _ => needR_n fun _ z => by cases z
    obtain ⟨k, k0, k1, rfl, _⟩ := hS false _ b1 b2 _ _ h1
    rw [List.drop_drop] at e3 ⊢
    obtain ⟨_, n2⟩ := next_hd e3 (by decide +kernel)
    have q := (tm.drop n2).one (by rw [e3]; decide +kernel)
    rw [List.length_drop] at q
    rw [tail_d, List.drop_drop]
    have h4 := opL_drop (l.drop (1 + 1)) (k + 1)
    rw [List.drop_drop] at h4
    exact hT false _ (v.drop _) (tm.drop (by omega)) (by rw [Nat.add_assoc (1 + 1) k 1]; omega)
  · intro z; cases z
theorem gdR_tot (hS : SndR R) (hT : TotR R o) : ∀ (m : Nat) (acc : List Tr) (l : List Sy), VsL l → TmL l → opL l ≤ o → l.length < m → gdR R m acc l ≠ none := by
  intro m
  induction m with
  | zero => intro acc l _ _ _ h; omega
  | succ m ih =>
    intro acc l v tm ho hm
    unfold gdR
    split
    · rename_i e
      have h1 := opL_tail e (.inr rfl)
      rw [tail_d] at h1 ⊢
      have tm1 := tm.drop (tm.one (by rw [e]; decide +kernel))
      refine bindR_n (hT true _ (v.drop 1) tm1 (by omega)) fun t l' h2 => needR_n fun e2 => ?_
      obtain ⟨k, k0, k1, rfl, _⟩ := hS true _ (v.drop 1) tm1 _ _ h2
      rw [List.drop_drop] at e2 ⊢
      obtain ⟨_, n2⟩ := next_hd e2 (by decide +kernel)
      have q := (tm.drop n2).one (by rw [e2]; decide +kernel)
      rw [List.length_drop] at q
      rw [tail_d, List.drop_drop]
      have h4 := opL_drop l (1 + k + 1)
      exact ih _ _ (v.drop _) (tm.drop (by omega)) (by omega) (by rw [List.length_drop]; omega)
    · exact bindR_n (sgL_tot hS hT v tm ho) fun _ _ _ z => by cases z
theorem tnR_tot (hS : SndR R) (hT : TotR R o) : ∀ (m c : Nat) (l : List Sy), VsL l → TmL l → opL l ≤ o → l.length < m → tnR R m c l ≠ none := by
  intro m
  induction m with
  | zero => intro c l _ _ _ h; omega
  | succ m ih =>
    intro c l v tm ho hm
    unfold tnR
    split
    · rename_i e
      have q := tm.one (by rw [e]; decide +kernel)
      rw [tail_d]
      have h4 := opL_drop l 1
      exact ih _ _ (v.drop 1) (tm.drop q) (by omega) (by rw [List.length_drop]; omega)
    · exact bindR_n (sgT_tot hS hT v tm ho) fun _ _ _ z => by cases z
theorem lpR_tot {a : Bool} {n : Nat} {f : List Sy → Option Rs} {sg : List Nat} {w : Str} (hsg : sg ≠ []) (hf : ∀ l, VsL l → TmL l → Snd a n l (f l)) (hn : ∀ l, VsL l → TmL l → opL l ≤ o → f l ≠ none) : ∀ (m : Nat) (t0 : Tr) (l : List Sy), VsL l → TmL l → opL l ≤ o → l.length < m → lpR f sg w m t0 l ≠ none := by
  intro m
  induction m with
  | zero => intro t0 l _ _ _ h; omega
  | succ m ih =>
    intro t0 l v tm ho hm
    unfold lpR
    split
    · rename_i e
      have q := tm.one (by rw [e]; exact hsg)
      rw [tail_d]
      have h4 := opL_drop l 1
      refine bindR_n (hn _ (v.drop 1) (tm.drop q) (by omega)) fun t l' h2 => ?_
      obtain ⟨k, k0, k1, rfl, _⟩ := hf _ (v.drop 1) (tm.drop q) _ _ h2
      rw [List.length_drop] at k1
      have h5 := opL_drop (l.drop 1) k
      rw [List.drop_drop] at h5 ⊢
      exact ih _ _ (v.drop _) (tm.drop (by omega)) (by omega) (by rw [List.length_drop]; omega)
    · intro z; cases z
theorem rdK_tot (hS : SndR R) (hT : TotR R o) (a : Bool) : ∀ (n : Nat), n ≤ 3 → ∀ l, VsL l → TmL l → opL l ≤ o → rdK R a n l ≠ none
  | 0, _, l, v, tm, ho => by
    cases a with
    | true => exact tnR_tot hS hT _ _ _ v tm ho (Nat.lt_succ_self _)
    | false => exact gdR_tot hS hT _ _ _ v tm ho (Nat.lt_succ_self _)
  | n + 1, hn, l, v, tm, ho => by
    show levR (rdK R a n) (sgA a (2 - n)) (wdA a (2 - n)) l ≠ none
    unfold levR
    refine bindR_n (rdK_tot hS hT a n (by omega) l v tm ho) fun t l' h => ?_
    obtain ⟨k, k0, k1, rfl, _⟩ := rdK_snd hS a n (by omega) l v tm _ _ h
    have h5 := opL_drop l k
    have hne : sgA a (2 - n) ≠ [] := sgn_ne a n (by omega)
    exact lpR_tot hne (fun l v tm => rdK_snd hS a n (by omega) l v tm) (fun l v tm ho => rdK_tot hS hT a n (by omega) l v tm ho) _ _ _ (v.drop k) (tm.drop k1) (by omega) (Nat.lt_succ_self _)
end
theorem rd_tot : ∀ o, TotR (rd o) o
  | 0 => fun a l _ _ h => absurd h (Nat.not_lt_zero _)
  | o + 1 => fun a l v tm h => rdK_tot (rd_snd o) (rd_tot o) a 3 (Nat.le_refl _) l v tm (by omega)
/-! ### signs of a text, symbols of it -/
def sumW (W : Nat → Nat) (l : List Nat) : Nat := (l.map W).sum
theorem sumW_app (W : Nat → Nat) (a b : List Nat) : sumW W (a ++ b) = sumW W a + sumW W b := by unfold sumW; rw [List.map_append, List.sum_append]
theorem sumW_nil (W : Nat → Nat) : sumW W [] = 0 := rfl
theorem sumW_cons (W : Nat → Nat) (c : Nat) (l : List Nat) : sumW W (c :: l) = W c + sumW W l := by unfold sumW; rw [List.map_cons, List.sum_cons]
/-- the same of all symbols -/
def sumS (W : Nat → Nat) (s : List (List Nat)) : Nat := (s.map (sumW W)).sum
theorem sumS_app (W : Nat → Nat) (a b : List (List Nat)) : sumS W (a ++ b) = sumS W a + sumS W b := by unfold sumS; rw [List.map_append, List.sum_append]
theorem sumS_cons (W : Nat → Nat) (x : List Nat) (s : List (List Nat)) : sumS W (x :: s) = sumW W x + sumS W s := by unfold sumS; rw [List.map_cons, List.sum_cons]
theorem sumS_nil (W : Nat → Nat) : sumS W [] = 0 := rfl
theorem runL_all : ∀ (cs : List Nat) (n : Nat), n ≤ runL cs → ∀ c ∈ cs.take n, isL c = true
  | [], n, _, c, h => by simp at h
  | d :: r, 0, _, c, h => by simp at h
  | d :: r, n + 1, hn, c, h => by
    unfold runL at hn
    split at hn
    · rename_i hd
      rw [List.take_succ_cons] at h
      rcases List.mem_cons.mp h with rfl | h
      · exact hd
      · exact runL_all r n (by omega) c h
    · omega
theorem symA_cut (cs : List Nat) : symA cs = cs.take (symA cs).length := by
  cases cs with
  | nil => rfl
  | cons c r =>
    rw [symA_c]
    have hf : ∃ f, f = (if c = 43 ∨ c = 45 then 1 else 0) ∧ f ≤ 1 := ⟨_, rfl, by split <;> omega⟩
    obtain ⟨f, e, hf⟩ := hf
    rw [← e]
    have hr := runL_le ((c :: r).drop f)
    rw [List.length_drop] at hr
    by_cases h1 : sgnB c = true
    · rw [if_pos h1]; rfl
    rw [if_neg h1]
    by_cases h2 : (c :: r).take 2 = [62, 62]
    · rw [if_pos h2]; exact h2.symm
    rw [if_neg h2]
    by_cases h3 : 1 ≤ runL ((c :: r).drop f) ∧ runL ((c :: r).drop f) ≤ 8
    · rw [if_pos h3, List.length_take, Nat.min_eq_left (by simp only [List.length_cons] at hr ⊢; omega)]
    · rw [if_neg h3]; rfl
theorem symA_vs {cs : List Nat} (h : symA cs ≠ []) : Vs (symA cs) := by
  cases cs with
  | nil => exact absurd rfl h
  | cons c r =>
    rw [symA_c] at h ⊢
    by_cases h1 : sgnB c = true
    · rw [if_pos h1]; exact .sgn h1
    rw [if_neg h1] at h ⊢
    by_cases h2 : (c :: r).take 2 = [62, 62]
    · rw [if_pos h2]; exact .go
    rw [if_neg h2] at h ⊢
    by_cases hc : c = 43 ∨ c = 45
    · simp only [if_pos hc] at h ⊢
      rw [List.drop_one, List.tail_cons] at h ⊢
      by_cases h3 : 1 ≤ runL r ∧ runL r ≤ 8
      · rw [if_pos h3]
        have hl := runL_le r
        rw [Nat.add_comm, List.take_succ_cons]
        exact .step hc (by rw [List.length_take]; omega) (by rw [List.length_take]; omega) (runL_all r _ (Nat.le_refl _))
      · rw [if_neg h3] at h; exact absurd rfl h
    · simp only [if_neg hc] at h ⊢
      rw [List.drop_zero] at h ⊢
      by_cases h3 : 1 ≤ runL (c :: r) ∧ runL (c :: r) ≤ 8
      · rw [if_pos h3]
        have hl := runL_le (c :: r)
        rw [Nat.zero_add]
        exact .word (by rw [List.length_take]; omega) (by rw [List.length_take]; omega) (runL_all _ _ (Nat.le_refl _))
      · rw [if_neg h3] at h; exact absurd rfl h
theorem lexA_n {f at_ : Nat} : lexA (f + 1) at_ [] = [([], at_)] := by rw [lexA]
theorem lexA_0 {at_ : Nat} {cs : List Nat} : lexA 0 at_ cs = [([], at_)] := by rw [lexA]
theorem lexA_vs : ∀ (f at_ : Nat) (cs : List Nat), VsL (lexA f at_ cs)
  | 0, at_, cs => by rw [lexA_0]; intro x hx; rw [List.mem_singleton.mp hx]; exact .inl rfl
  | f + 1, at_, [] => by rw [lexA_n]; intro x hx; rw [List.mem_singleton.mp hx]; exact .inl rfl
  | f + 1, at_, c :: r => by
    rw [lexA_s]
    split
    · exact lexA_vs f _ r
    split
    · intro x hx; rw [List.mem_singleton.mp hx]; exact .inl rfl
    · rename_i h
      intro x hx
      rcases List.mem_cons.mp hx with rfl | hx
      · exact .inr (symA_vs h)
      · exact lexA_vs f _ _ x hx
/-- no more of anything in the symbols than in the text -/
theorem lexA_le (W : Nat → Nat) : ∀ (f at_ : Nat) (cs : List Nat), sumS W ((lexA f at_ cs).map Prod.fst) ≤ sumW W cs
  | 0, at_, cs => by rw [lexA_0]; exact Nat.zero_le _
  | f + 1, at_, [] => by rw [lexA_n]; exact Nat.zero_le _
  | f + 1, at_, c :: r => by
    rw [lexA_s]
    split
    · have := lexA_le W f (at_ + 1) r
      rw [sumW_cons]
      omega
    split
    · exact Nat.zero_le _
    · have := lexA_le W f (at_ + (symA (c :: r)).length) ((c :: r).drop (symA (c :: r)).length)
      have e : c :: r = symA (c :: r) ++ (c :: r).drop (symA (c :: r)).length := by
        conv => lhs; rw [← List.take_append_drop (symA (c :: r)).length (c :: r), ← symA_cut]
      conv => rhs; rw [e, sumW_app]
      rw [List.map_cons, sumS_cons]
      exact Nat.add_le_add_left this _
/-- places are within the text, but the last one -/
theorem lexA_pl : ∀ (f at_ : Nat) (cs : List Nat), cs.length < f → (∀ x ∈ (lexA f at_ cs).dropLast, x.2 < at_ + cs.length) ∧
    (∀ (W : Nat → Nat) (e : Nat), W 32 = 0 → (lexA f at_ cs).getLast? = some ([], e) → at_ + cs.length ≤ e → sumS W ((lexA f at_ cs).dropLast.map Prod.fst) = sumW W cs)
  | 0, at_, cs, h => absurd h (Nat.not_lt_zero _)
  | f + 1, at_, [], h => by rw [lexA_n]; exact ⟨fun x hx => by simp at hx, fun W e _ _ _ => rfl⟩
  | f + 1, at_, c :: r, h => by
    rw [lexA_s]
    simp only [List.length_cons] at h ⊢
    split
    · rename_i hc
      obtain ⟨h1, h2⟩ := lexA_pl f (at_ + 1) r (by omega)
      exact ⟨fun x hx => by have := h1 x hx; omega, fun W e h0 hl he => by rw [h2 W e h0 hl (by omega), sumW_cons, hc, h0, Nat.zero_add]⟩
    split
    · refine ⟨fun x hx => by simp at hx, fun W e _ hl he => ?_⟩
      simp only [List.getLast?_singleton, Option.some.injEq, Prod.mk.injEq, true_and] at hl
      omega
    · rename_i hc hs
      have hp : 0 < (symA (c :: r)).length := List.length_pos_iff.mpr hs
      have hle := symA_len (c :: r)
      rw [List.length_cons] at hle
      obtain ⟨h1, h2⟩ := lexA_pl f (at_ + (symA (c :: r)).length) ((c :: r).drop (symA (c :: r)).length) (by rw [List.length_drop, List.length_cons]; omega)
      rw [List.length_drop, List.length_cons] at h1 h2
      obtain ⟨_, ⟨e0, hl0⟩, hpos, _⟩ := lexA_facts f (at_ + (symA (c :: r)).length) ((c :: r).drop (symA (c :: r)).length)
      have hne : lexA f (at_ + (symA (c :: r)).length) ((c :: r).drop (symA (c :: r)).length) ≠ [] := List.length_pos_iff.mp hpos
      rw [List.dropLast_cons_of_ne_nil hne]
      refine ⟨fun x hx => ?_, fun W e h0 hl he => ?_⟩
      · rcases List.mem_cons.mp hx with rfl | hx
        · show at_ < _
          omega
        · have := h1 x hx; omega
      · rw [List.getLast?_cons, hl0] at hl
        have hl' : some (([] : List Nat), e0) = some ([], e) := hl
        cases hl'
        have q := h2 W e0 h0 hl0 (by omega)
        have ee : c :: r = symA (c :: r) ++ (c :: r).drop (symA (c :: r)).length := by
          conv => lhs; rw [← List.take_append_drop (symA (c :: r)).length (c :: r), ← symA_cut]
        conv => rhs; rw [ee, sumW_app]
        rw [List.map_cons, sumS_cons, q]
theorem lexT_tm (cs : List Nat) : VsL (lexT cs) ∧ TmL (lexT cs) := by
  obtain ⟨_, h2, _, _⟩ := lexA_facts (cs.length + 1) 0 cs
  exact ⟨lexA_vs _ _ _, h2⟩
/-- what is read is derivable, from all symbols of the text -/
theorem readT_snd {o : Nat} {a : Bool} {cs : List Nat} {t : Tr} {l : List Sy} (h : readT o a cs = some (.ok t l)) : ∃ s, Der a 4 s t ∧ ∀ W : Nat → Nat, W 32 = 0 → sumS W s = sumW W cs := by
  unfold readT at h
  obtain ⟨t1, l1, h1, h⟩ := bindR_s h
  split at h
  · cases h
  rename_i hp
  cases h
  obtain ⟨hv, htm⟩ := lexT_tm cs
  obtain ⟨k, k0, k1, rfl, d⟩ := rd_snd o a _ hv htm _ _ h1
  obtain ⟨p1, p2⟩ := lexA_pl (cs.length + 1) 0 cs (Nat.lt_succ_self _)
  obtain ⟨e, he⟩ := htm
  have hk : k = (lexT cs).length - 1 := by
    by_cases c : k = (lexT cs).length - 1
    · exact c
    · exfalso
      have hm : (lexT cs)[k] ∈ (lexT cs).dropLast := by
        have hk2 : k < (lexT cs).dropLast.length := by rw [List.length_dropLast]; omega
        have := List.getElem_mem hk2
        rwa [List.getElem_dropLast] at this
      have := p1 _ hm
      apply hp
      rw [drop_c k1]
      show ((lexT cs)[k]).2 < cs.length
      omega
  have hd : (lexT cs).take k = (lexT cs).dropLast := by rw [List.dropLast_eq_take, hk]
  have hpe : cs.length ≤ e := by
    have e2 : hdP ((lexT cs).drop k) = e := by
      rw [drop_c k1]
      show ((lexT cs)[k]).2 = e
      rw [List.getLast?_eq_getElem?, ← hk, List.getElem?_eq_getElem k1] at he
      exact congrArg Prod.snd (Option.some.inj he)
    rw [← e2]
    omega
  refine ⟨_, d, fun W h0 => ?_⟩
  rw [hd]
  exact p2 W e h0 he (by omega)
/-- a text with few brackets is read, or refused -/
theorem readT_tot {o : Nat} {a : Bool} {cs : List Nat} (h : sumW (fun c => if c = 40 ∨ c = 91 then 1 else 0) cs < o) : readT o a cs ≠ none := by
  unfold readT
  obtain ⟨hv, htm⟩ := lexT_tm cs
  refine bindR_n (rd_tot o a _ hv htm ?_) fun t l _ => ?_
  · have h1 := lexA_le (fun c => if c = 40 ∨ c = 91 then 1 else 0) (cs.length + 1) 0 cs
    refine Nat.lt_of_le_of_lt (Nat.le_trans ?_ h1) h
    show opens ((lexT cs).map Prod.fst) ≤ sumS _ ((lexT cs).map Prod.fst)
    generalize (lexT cs).map Prod.fst = s
    induction s with
    | nil => exact Nat.le_refl _
    | cons x s ih =>
      rw [opens_1, sumS_cons]
      split
      · rename_i hx
        have : sumW (fun c => if c = 40 ∨ c = 91 then 1 else 0) x = 1 := by
          rcases hx with rfl | rfl <;> decide +kernel
        omega
      · omega
  · split
    · intro z; cases z
    · intro z; cases z
/-! ### brackets of a text, of the tree that is read from it -/
def W40 (c : Nat) : Nat := if c = 40 then 1 else 0
/-- two for each sign that makes a node -/
def W5 (c : Nat) : Nat := if c = 40 ∨ c = 91 ∨ c = 38 ∨ c = 94 ∨ c = 124 ∨ c = 126 then 2 else if c = 62 then 1 else 0
theorem w_nm {k : Str} (h : Nm k) : sumW W40 k.cps.toList = 0 ∧ sumW W5 k.cps.toList = 0 := by
  have key : ∀ l : List Nat, (∀ c ∈ l, 97 ≤ c ∧ c ≤ 122) → sumW W40 l = 0 ∧ sumW W5 l = 0 := by
    intro l
    induction l with
    | nil => intro _; exact ⟨rfl, rfl⟩
    | cons c r ih =>
      intro hl
      obtain ⟨i1, i2⟩ := ih fun x hx => hl x (.tail _ hx)
      have hc := hl c (.head _)
      rw [sumW_cons, sumW_cons, i1, i2]
      unfold W40 W5
      rw [if_neg (by omega), if_neg (by omega), if_neg (by omega)]
      exact ⟨rfl, rfl⟩
  exact key _ h.2.2
theorem sumS_1 (W : Nat → Nat) (x : List Nat) : sumS W [x] = sumW W x := by rw [sumS_cons, sumS_nil, Nat.add_zero]
theorem sumS_brk (W : Nat → Nat) (b : Bool) (l : List (List Nat)) : sumS W (brk b l) = sumS W l + (if b = true then sumW W (wd "(") + sumW W (wd ")") else 0) := by
  unfold brk
  cases b with
  | true => rw [if_pos rfl, if_pos rfl, sumS_app, sumS_app, sumS_1, sumS_1]; omega
  | false => rw [if_neg (by decide), if_neg (by decide), Nat.add_zero]
theorem w40_ : sumW W40 (wd "(") = 1 ∧ sumW W40 (wd ")") = 0 := by decide +kernel
theorem tok40 (a : Bool) (least : Nat) (t : Tr) : sumS W40 (tok a least t) = sumS W40 (tokB t a) + (if rnkW a t.word < least then 1 else 0) := by
  unfold tok
  rw [sumS_brk, w40_.1, w40_.2]
  by_cases h : rnkW a t.word < least
  · rw [decide_eq_true h, if_pos rfl, if_pos h]
  · rw [decide_eq_false h, if_neg (by decide), if_neg h]
theorem sgnOf40 (w : Str) : sumW W40 (sgnOf w) = 0 ∧ sumW W5 (sgnOf w) = 2 := by
  unfold sgnOf
  split
  · decide +kernel
  split
  · decide +kernel
  split
  · decide +kernel
  · decide +kernel
theorem sgI_w (a : Bool) (n : Nat) (h : n < 3) : sumW W40 (sgI a (n + 2)) = 0 ∧ sumW W5 (sgI a (n + 2)) = 2 := by
  have : n = 0 ∨ n = 1 ∨ n = 2 := by omega
  rcases this with rfl | rfl | rfl <;> cases a <;> decide +kernel
theorem wdI_w (a : Bool) (n : Nat) (h : n < 3) : rnkW a (wdI a (n + 2)) = 2 - n ∧ wdI a (n + 2) ≠ Str.ofString "same" ∧ wdI a (n + 2) ≠ Str.ofString "when" := by
  have : n = 0 ∨ n = 1 ∨ n = 2 := by omega
  rcases this with rfl | rfl | rfl <;> cases a <;> decide +kernel
theorem wdI_in (a : Bool) (n : Nat) (h : n < 3) : Tr.okw (wdI a (n + 2)) := by
  refine okw_of ?_
  have : n = 0 ∨ n = 1 ∨ n = 2 := by omega
  rcases this with rfl | rfl | rfl <;> cases a <;> decide +kernel
/-- a text has the brackets that the tree's own text has -/
theorem der40 {a : Bool} {n : Nat} {s : List (List Nat)} {t : Tr} (h : Der a n s t) : sumS W40 (tok a (3 - (n - 1)) t) ≤ sumS W40 s := by
  have le_ : ∀ (a : Bool) (l : Nat) (t : Tr), sumS W40 (tok a l t) ≤ sumS W40 (tokB t a) + 1 := fun a l t => by
    rw [tok40]
    split <;> omega
  have ge_ : ∀ (a : Bool) (l : Nat) (t : Tr), sumS W40 (tokB t a) ≤ sumS W40 (tok a l t) := fun a l t => by
    rw [tok40]
    exact Nat.le_add_right _ _
  have sg_ : ∀ (a : Bool) (t : Tr), rnkW a t.word = 3 → ∀ l, l ≤ 3 → sumS W40 (tok a l t) = sumS W40 (tokB t a) := fun a t h l hl => by
    rw [tok40, if_neg (by omega)]
    rfl
  induction h with
  | here => decide +kernel
  | @step k d hk hd =>
    rw [sg_ false (.st k d) (by show rnkW false (Str.ofString "step") = 3; decide +kernel) (3 - (0 - 1)) (by omega)]
    exact Nat.le_refl _
  | @par a s t _ ih =>
    have h1 := le_ a (3 - (0 - 1)) t
    have h2 := ge_ a (3 - (4 - 1)) t
    rw [sumS_app, sumS_app, sumS_1, sumS_1, w40_.1, w40_.2]
    omega
  | always => decide +kernel
  | @marked k hk =>
    rw [sg_ true (.mk k) (by show rnkW true (Str.ofString "marked") = 3; decide +kernel) (3 - (0 - 1)) (by omega)]
    exact Nat.le_refl _
  | @found s t _ ih =>
    rw [sg_ true (.one "found" t) (by show rnkW true (Str.ofString "found") = 3; decide +kernel) (3 - (0 - 1)) (by omega)]
    have h2 := ge_ false (3 - (4 - 1)) t
    rw [show tokB (.one "found" t) true = [wd "found", wd "("] ++ tokB t false ++ [wd ")"] from by rw [tokB, if_pos rfl]]
    simp only [sumS_app]
    omega
  | @same s u t v _ _ ih1 ih2 =>
    rw [sg_ true (.two "same" t v) (by show rnkW true (Str.ofString "same") = 3; decide +kernel) (3 - (0 - 1)) (by omega)]
    have h1 := ge_ false (3 - (4 - 1)) t
    have h2 := ge_ false (3 - (4 - 1)) v
    rw [show tokB (.two "same" t v) true = [wd "same", wd "("] ++ tokB t false ++ [wd ","] ++ tokB v false ++ [wd ")"] from by rw [tokB, if_pos rfl]]
    simp only [sumS_app]
    omega
  | @up a n s t _ _ ih =>
    refine Nat.le_trans ?_ ih
    rw [tok40, tok40]
    split
    · rw [if_pos (by omega)]
      exact Nat.le_refl _
    · exact Nat.le_add_right _ _
  | @when s u t v _ _ ih1 ih2 =>
    rw [sg_ false (.two "when" v t) (by show rnkW false (Str.ofString "when") = 3; decide +kernel) (3 - (1 - 1)) (by omega)]
    have h1 := ge_ true (3 - (4 - 1)) t
    rw [show tokB (.two "when" v t) false = [wd "["] ++ tokB t true ++ [wd "]"] ++ tok false 3 v from by rw [tokB, if_neg (by decide +kernel), if_pos rfl]; rfl]
    simp only [sumS_app]
    have ih2 : sumS W40 (tok false 3 v) ≤ sumS W40 u := ih2
    omega
  | @not s t _ ih =>
    rw [sg_ true (.one "not" t) (by show rnkW true (Str.ofString "not") = 3; decide +kernel) (3 - (1 - 1)) (by omega)]
    rw [show tokB (.one "not" t) true = [wd "~"] ++ tok true 3 t from by rw [tokB, if_neg (by decide +kernel)]; rfl]
    simp only [sumS_app]
    have ih : sumS W40 (tok true 3 t) ≤ sumS W40 s := ih
    omega
  | @bin a n s u t v hn _ _ ih1 ih2 =>
    obtain ⟨r1, r2, r3⟩ := wdI_w a n hn
    rw [tok40, if_neg (by show ¬ rnkW a (wdI a (n + 2)) < _; omega), Nat.add_zero]
    rw [show tokB (.two (wdI a (n + 2)) t v) a = tok a (2 - n) t ++ [sgnOf (wdI a (n + 2))] ++ tok a (2 - n + 1) v from by rw [tokB, if_neg r2, if_neg r3, r1]; rfl]
    simp only [sumS_app, sumS_1]
    rw [(sgnOf40 _).1, (sgI_w a n hn).1]
    rw [show 3 - (n + 2 - 1) = 2 - n from by omega] at ih1
    rw [show 3 - (n + 1 - 1) = 2 - n + 1 from by omega] at ih2
    omega
/-- the tree is no deeper than its text has signs -/
theorem der_dep {a : Bool} {n : Nat} {s : List (List Nat)} {t : Tr} (h : Der a n s t) : 1 ≤ t.dep ∧ 2 * t.dep ≤ 2 + sumS W5 s := by
  have e1 : sumW W5 (wd "(") = 2 ∧ sumW W5 (wd "[") = 2 ∧ sumW W5 (wd "~") = 2 := by decide +kernel
  induction h with
  | here => exact ⟨Nat.le_refl _, Nat.le_add_right _ _⟩
  | step _ _ => exact ⟨Nat.le_refl _, Nat.le_add_right _ _⟩
  | always => exact ⟨Nat.le_refl _, Nat.le_add_right _ _⟩
  | marked _ => exact ⟨Nat.le_refl _, Nat.le_add_right _ _⟩
  | par _ ih =>
    simp only [sumS_app]
    exact ⟨ih.1, by omega⟩
  | @found s t _ ih =>
    simp only [sumS_app, sumS_cons, e1.1]
    show 1 ≤ t.dep + 1 ∧ 2 * (t.dep + 1) ≤ _
    omega
  | @same s u t v _ _ ih1 ih2 =>
    simp only [sumS_app, sumS_cons, e1.1]
    show 1 ≤ max t.dep v.dep + 1 ∧ 2 * (max t.dep v.dep + 1) ≤ _
    omega
  | up _ _ ih => exact ih
  | @when s u t v _ _ ih1 ih2 =>
    simp only [sumS_app, sumS_cons, e1.2.1]
    show 1 ≤ max v.dep t.dep + 1 ∧ 2 * (max v.dep t.dep + 1) ≤ _
    omega
  | @not s t _ ih =>
    simp only [sumS_app, sumS_cons, e1.2.2]
    show 1 ≤ t.dep + 1 ∧ 2 * (t.dep + 1) ≤ _
    omega
  | @bin a n s u t v hn _ _ ih1 ih2 =>
    simp only [sumS_app, sumS_1, (sgI_w a n hn).2]
    show 1 ≤ max t.dep v.dep + 1 ∧ 2 * (max t.dep v.dep + 1) ≤ _
    omega
theorem der_ok {a : Bool} {n : Nat} {s : List (List Nat)} {t : Tr} (h : Der a n s t) : t.ok := by
  induction h with
  | here => exact okw_of (by simp)
  | step h _ => exact h.ok
  | always => exact okw_of (by simp)
  | marked h => exact h.ok
  | par _ ih => exact ih
  | found _ ih => exact ⟨okw_of (by simp), ih⟩
  | same _ _ ih1 ih2 => exact ⟨okw_of (by simp), ih1, ih2⟩
  | up _ _ ih => exact ih
  | when _ _ ih1 ih2 => exact ⟨okw_of (by simp), ih2, ih1⟩
  | not _ ih => exact ⟨okw_of (by simp), ih⟩
  | bin hn _ _ ih1 ih2 => exact ⟨wdI_in _ _ hn, ih1, ih2⟩
/-- a written formula has few signs -/
theorem tok5 {ks ms : List Str} (hk : ∀ k ∈ ks, Nm k) (hm : ∀ k ∈ ms, Nm k) : ∀ (t : Tr) (a : Bool), t.wf ks ms a → sumS W5 (tokB t a) + (if rnkW a t.word < 3 then 2 else 0) ≤ 2 * t.brk
  | .z w, false, h => by
    obtain rfl : w = Str.ofString "here" := h
    decide +kernel
  | .z w, true, h => by
    obtain rfl : w = Str.ofString "always" := h
    decide +kernel
  | .st k d, false, h => by
    rw [if_neg (by show ¬ rnkW false (Str.ofString "step") < 3; decide +kernel)]
    show sumS W5 [_] + 0 ≤ 0
    rw [sumS_1, sumW_cons, (w_nm (hk k h.1)).2]
    split <;> decide
  | .st _ _, true, h => h.elim
  | .mk k, true, h => by
    rw [if_neg (by show ¬ rnkW true (Str.ofString "marked") < 3; decide +kernel)]
    show sumS W5 [wd "marked", wd "(", k.cps.toList, wd ")"] + 0 ≤ 2
    simp only [sumS_cons, (w_nm (hm k h)).2]
    decide +kernel
  | .mk _, false, h => h.elim
  | .one _ _, false, h => h.elim
  | .one w x, true, h => by
    rcases h with ⟨e, hx⟩ | ⟨e, hx⟩
    · obtain rfl : w = Str.ofString "found" := e
      have ih := tok5 hk hm x false hx
      rw [if_neg (by show ¬ rnkW true (Str.ofString "found") < 3; decide +kernel)]
      rw [show tokB (.one (Str.ofString "found") x) true = [wd "found", wd "("] ++ tokB x false ++ [wd ")"] from by rw [tokB, if_pos rfl]]
      rw [sumS_app, sumS_app, show sumS W5 [wd "found", wd "("] = 2 from by decide +kernel, show sumS W5 [wd ")"] = 0 from by decide +kernel]
      show 2 + sumS W5 (tokB x false) + 0 + 0 ≤ 2 * (x.brk + 1)
      omega
    · obtain rfl : w = Str.ofString "not" := e
      have ih := tok5 hk hm x true hx
      rw [if_neg (by show ¬ rnkW true (Str.ofString "not") < 3; decide +kernel)]
      rw [show tokB (.one (Str.ofString "not") x) true = [wd "~"] ++ brk (decide (rnkW true x.word < 3)) (tokB x true) from by rw [tokB, if_neg (by decide +kernel)]]
      rw [sumS_app, sumS_brk, show sumS W5 [wd "~"] = 2 from by decide +kernel, show sumW W5 (wd "(") + sumW W5 (wd ")") = 2 from by decide +kernel]
      simp only [decide_eq_true_eq]
      show 2 + (sumS W5 (tokB x true) + _) + 0 ≤ 2 * (x.brk + 1)
      omega
  | .two w x y, a, h => by
    have br_ : (Tr.two w x y).brk = x.brk + y.brk + 2 := rfl
    have le_ : ∀ (z : Tr) (b : Bool) (least : Nat), sumS W5 (tokB z b) + (if rnkW b z.word < 3 then 2 else 0) ≤ 2 * z.brk → least ≤ 3 → sumS W5 (brk (decide (rnkW b z.word < least)) (tokB z b)) ≤ 2 * z.brk := fun z b least h hl => by
      rw [sumS_brk, show sumW W5 (wd "(") + sumW W5 (wd ")") = 2 from by decide +kernel]
      simp only [decide_eq_true_eq]
      split
      · rw [if_pos (by omega)] at h
        exact h
      · omega
    have fin : ∀ {p q : Bool}, x.wf ks ms p → y.wf ks ms q → (sumS W5 (tokB x p) + (if rnkW p x.word < 3 then 2 else 0) ≤ 2 * x.brk ∧ sumS W5 (tokB y q) + (if rnkW q y.word < 3 then 2 else 0) ≤ 2 * y.brk) := fun hx hy => ⟨tok5 hk hm x _ hx, tok5 hk hm y _ hy⟩
    have z2 : (if rnkW a (Tr.two w x y).word < 3 then 2 else 0) ≤ 2 := by split <;> omega
    by_cases n1 : w = Str.ofString "same"
    · obtain ⟨hx, hy, ea⟩ : x.wf ks ms false ∧ y.wf ks ms false ∧ a = true := by
        cases a with
        | false => rcases h with ⟨e | e | e, _⟩ | ⟨e, _⟩ <;> (rw [n1] at e; exact absurd e (by decide +kernel))
        | true =>
          rcases h with ⟨_, h⟩ | ⟨e | e | e, _⟩
          · exact ⟨h.1, h.2, rfl⟩
          all_goals (rw [n1] at e; exact absurd e (by decide +kernel))
      obtain ⟨i1, i2⟩ := fin hx hy
      have z0 : (if rnkW a (Tr.two w x y).word < 3 then 2 else 0) = 0 := by
        rw [ea, n1]
        exact if_neg (show ¬ rnkW true (Str.ofString "same") < 3 by decide +kernel)
      rw [z0, tokB, if_pos n1]
      simp only [sumS_app]
      rw [show sumS W5 [wd "same", wd "("] = 2 from by decide +kernel, show sumS W5 [wd ")"] = 0 from by decide +kernel, show sumS W5 [wd ","] = 0 from by decide +kernel]
      omega
    by_cases n2 : w = Str.ofString "when"
    · obtain ⟨hx, hy, ea⟩ : x.wf ks ms false ∧ y.wf ks ms true ∧ a = false := by
        cases a with
        | true => rcases h with ⟨e, _⟩ | ⟨e | e | e, _⟩ <;> (rw [n2] at e; exact absurd e (by decide +kernel))
        | false =>
          rcases h with ⟨e | e | e, _⟩ | ⟨_, h⟩
          · rw [n2] at e; exact absurd e (by decide +kernel)
          · rw [n2] at e; exact absurd e (by decide +kernel)
          · rw [n2] at e; exact absurd e (by decide +kernel)
          · exact ⟨h.1, h.2, rfl⟩
      obtain ⟨i1, i2⟩ := fin hx hy
      have z0 : (if rnkW a (Tr.two w x y).word < 3 then 2 else 0) = 0 := by
        rw [ea, n2]
        exact if_neg (show ¬ rnkW false (Str.ofString "when") < 3 by decide +kernel)
      have h1 := le_ x false 3 i1 (Nat.le_refl _)
      rw [z0, tokB, if_neg n1, if_pos n2]
      simp only [sumS_app]
      rw [show sumS W5 [wd "["] = 2 from by decide +kernel, show sumS W5 [wd "]"] = 0 from by decide +kernel]
      omega
    · obtain ⟨hx, hy, hr⟩ : x.wf ks ms a ∧ y.wf ks ms a ∧ rnkW a w ≤ 2 := by
        cases a with
        | true =>
          rcases h with ⟨e, _⟩ | ⟨e, h⟩
          · exact absurd e n1
          · exact ⟨h.1, h.2, by rcases e with rfl | rfl | rfl <;> decide +kernel⟩
        | false =>
          rcases h with ⟨e, h⟩ | ⟨e, _⟩
          · exact ⟨h.1, h.2, by rcases e with rfl | rfl | rfl <;> decide +kernel⟩
          · exact absurd e n2
      obtain ⟨i1, i2⟩ := fin hx hy
      have h1 := le_ x a (rnkW a w) i1 (by omega)
      have h2 := le_ y a (rnkW a w + 1) i2 (by omega)
      rw [tokB, if_neg n1, if_neg n2]
      simp only [sumS_app, sumS_1, (sgnOf40 w).2]
      omega
/-- a text as it is written has the signs of its symbols -/
theorem wr_sum {W : Nat → Nat} (h : W 32 = 0) : ∀ s : List (List Nat), sumW W (wr s) = sumS W s
  | [] => rfl
  | x :: s => by
    have hb : ∀ n, sumW W (List.replicate n 32) = 0 := fun n => by
      induction n with
      | zero => rfl
      | succ n ih => rw [List.replicate_succ, sumW_cons, h, ih]
    rw [wr_cons, sumW_app, wrS_bl, sumW_app, sumW_app, hb, hb, wr_sum h s, sumS_cons, Nat.zero_add, Nat.add_zero]
/-! ### round brackets in pairs -/
def goP : Nat → List Nat → Option Nat
  | d, [] => some d
  | d, c :: r => if c = 40 then goP (d + 1) r else if c = 41 then (if d = 0 then none else goP (d - 1) r) else goP d r
theorem goP_c (d c : Nat) (r : List Nat) : goP d (c :: r) = if c = 40 then goP (d + 1) r else if c = 41 then (if d = 0 then none else goP (d - 1) r) else goP d r := rfl
theorem goP_app : ∀ (a b : List Nat) (d : Nat), goP d (a ++ b) = (goP d a).bind fun e => goP e b
  | [], b, d => rfl
  | c :: r, b, d => by
    rw [List.cons_append, goP_c, goP_c]
    by_cases h1 : c = 40
    · rw [if_pos h1, if_pos h1]
      exact goP_app r b (d + 1)
    rw [if_neg h1, if_neg h1]
    by_cases h2 : c = 41
    · rw [if_pos h2, if_pos h2]
      by_cases h3 : d = 0
      · rw [if_pos h3, if_pos h3]; rfl
      · rw [if_neg h3, if_neg h3]
        exact goP_app r b (d - 1)
    · rw [if_neg h2, if_neg h2]
      exact goP_app r b d
theorem goP_no : ∀ (a : List Nat) (d : Nat), (∀ c ∈ a, c ≠ 40 ∧ c ≠ 41) → goP d a = some d
  | [], d, _ => rfl
  | c :: r, d, h => by
    have hc := h c (.head _)
    unfold goP
    rw [if_neg hc.1, if_neg hc.2]
    exact goP_no r d fun x hx => h x (.tail _ hx)
def Bal (s : List (List Nat)) : Prop := ∀ d, goP d (wr s) = some d
theorem Bal.app {a b : List (List Nat)} (ha : Bal a) (hb : Bal b) : Bal (a ++ b) := fun d => by
  rw [wr_app, goP_app, ha d]
  exact hb d
theorem Bal.one {x : List Nat} (h : ∀ c ∈ x, c ≠ 40 ∧ c ≠ 41) : Bal [x] := fun d => by
  rw [wr_one, wrS_bl]
  refine goP_no _ d fun c hc => ?_
  rw [List.mem_append, List.mem_append] at hc
  rcases hc with (hc | hc) | hc
  · have := (List.mem_replicate.mp hc).2; omega
  · exact h c hc
  · have := (List.mem_replicate.mp hc).2; omega
theorem Bal.par {s : List (List Nat)} (h : Bal s) : Bal ([wd "("] ++ s ++ [wd ")"]) := fun d => by
  rw [wr_app, wr_app, wr_one, wr_one, show wrS (wd "(") = [40] from by decide +kernel, show wrS (wd ")") = [41] from by decide +kernel, List.append_assoc, List.singleton_append]
  show goP (d + 1) (wr s ++ [41]) = some d
  rw [goP_app, h (d + 1)]
  rfl
theorem bal_lit {x : List Nat} (h : x.all (fun c => decide (c ≠ 40 ∧ c ≠ 41)) = true) : Bal [x] := .one fun c hc => of_decide_eq_true (List.all_eq_true.mp h c hc)
theorem bal_nm {k : Str} (h : Nm k) : Bal [k.cps.toList] := .one fun c hc => by have := h.2.2 c hc; omega
theorem Der.bal {a : Bool} {n : Nat} {s : List (List Nat)} {t : Tr} (h : Der a n s t) : Bal s := by
  induction h with
  | here => exact bal_lit (by decide +kernel)
  | @step k d hk hd =>
    refine .one fun c hc => ?_
    rcases List.mem_cons.mp hc with rfl | hc
    · split <;> decide
    · have := hk.2.2 c hc; omega
  | par _ ih => exact ih.par
  | always => exact bal_lit (by decide +kernel)
  | @marked k hk => exact (bal_lit (x := wd "marked") (by decide +kernel)).app (bal_nm hk).par
  | @found s t _ ih =>
    have := (bal_lit (x := wd "found") (by decide +kernel)).app ih.par
    simpa using this
  | @same s u t v _ _ ih1 ih2 =>
    have := (bal_lit (x := wd "same") (by decide +kernel)).app ((ih1.app (bal_lit (x := wd ",") (by decide +kernel))).app ih2).par
    simpa using this
  | up _ _ ih => exact ih
  | when _ _ ih1 ih2 => exact (((bal_lit (x := wd "[") (by decide +kernel)).app ih1).app (bal_lit (x := wd "]") (by decide +kernel))).app ih2
  | not _ ih => exact (bal_lit (x := wd "~") (by decide +kernel)).app ih
  | @bin a n s u t v hn _ _ ih1 ih2 =>
    refine (ih1.app (bal_lit ?_)).app ih2
    have : n = 0 ∨ n = 1 ∨ n = 2 := by omega
    rcases this with rfl | rfl | rfl <;> cases a <;> decide +kernel
/-- two signs taken out -/
def bareL (cs : List Nat) (f r : Nat) : List Nat := cs.take f ++ (cs.take r).drop (f + 1) ++ cs.drop (r + 1)
theorem at_cut {α : Type} {cs : List α} {f : Nat} {x : α} (h : cs[f]? = some x) : cs = cs.take f ++ (x :: cs.drop (f + 1)) := by
  obtain ⟨hf, e⟩ := List.getElem?_eq_some_iff.mp h
  rw [← e, ← List.drop_eq_getElem_cons hf, List.take_append_drop]
theorem bare_sum {W : Nat → Nat} {cs : List Nat} {f r x y : Nat} (hf : cs[f]? = some x) (hr : cs[r]? = some y) (h : f < r) : sumW W cs = sumW W (bareL cs f r) + W x + W y := by
  have h1 := at_cut hr
  have hf2 : (cs.take r)[f]? = some x := by rw [List.getElem?_take_of_lt h]; exact hf
  have h2 := at_cut hf2
  rw [List.take_take, Nat.min_eq_left (by omega)] at h2
  have e : sumW W cs = sumW W (cs.take r) + (W y + sumW W (cs.drop (r + 1))) := by
    conv => lhs; rw [h1, sumW_app, sumW_cons]
  have e2 : sumW W (cs.take r) = sumW W (cs.take f) + (W x + sumW W ((cs.take r).drop (f + 1))) := by
    conv => lhs; rw [h2, sumW_app, sumW_cons]
  unfold bareL
  rw [sumW_app, sumW_app]
  omega
theorem bare_len {cs : List Nat} {f r : Nat} (hr : r < cs.length) (h : f < r) : (bareL cs f r).length ≤ cs.length := by
  unfold bareL
  simp only [List.length_append, List.length_take, List.length_drop]
  omega
/-- what is known of a formula's text -/
structure F47 (ks ms : List Str) (a : Bool) (t : Tr) : Prop where
  f : F45 ks ms a t
  rd : readT 34 a (shwB t a) = some (.ok t [([], (shwB t a).length)])
  par : readT 34 a (40 :: (shwB t a ++ [41])) = some (.ok t [([], (shwB t a).length + 2)])
  bal : goP 0 (shwB t a) = some 0
  tot : ∀ f r, (shwB t a)[f]? = some 40 → (shwB t a)[r]? = some 41 → f < r → readT 34 a (bareL (shwB t a) f r) ≠ none
  new : ∀ f r, (shwB t a)[f]? = some 40 → (shwB t a)[r]? = some 41 → f < r → ∀ u l, readT 34 a (bareL (shwB t a) f r) = some (.ok u l) → u ≠ t ∧ u.ok ∧ u.dep ≤ 64
theorem W41 : W40 32 = 0 ∧ W5 32 = 0 ∧ W40 40 = 1 ∧ W5 41 = 0 ∧ W40 41 = 0 := by decide
theorem w5_br (l : List Nat) : 2 * sumW (fun c => if c = 40 ∨ c = 91 then 1 else 0) l ≤ sumW W5 l := by
  induction l with
  | nil => exact Nat.le_refl _
  | cons c r ih =>
    rw [sumW_cons, sumW_cons]
    have : 2 * (if c = 40 ∨ c = 91 then 1 else 0) ≤ W5 c := by
      unfold W5
      by_cases h : c = 40 ∨ c = 91
      · rw [if_pos h, if_pos (by omega)]
        exact Nat.le_refl _
      · rw [if_neg h]
        exact Nat.zero_le _
    omega
theorem F47.of {ks ms : List Str} {a : Bool} {t : Tr} {m : Nat} (g : Gd ks ms a m t) (h5 : m ≤ 5) (hk : ∀ k ∈ ks, Nm k) (hm : ∀ k ∈ ms, Nm k) : F47 ks ms a t := by
  have F := F45.of g h5 hk hm
  have hb : t.brk ≤ 32 := by
    cases a with
    | false =>
      have h : t.brk + 5 ≤ 7 * m := g.br
      omega
    | true =>
      have h : t.brk + 3 ≤ 7 * m := g.br
      omega
  have d0 := tok_der (tokB_der hk hm t a g.wf) 0
  rw [tok_0] at d0
  have ho := opens_tok hm t a g.wf
  have h40 : sumW W40 (shwB t a) = sumS W40 (tokB t a) := by rw [← F.wr]; exact wr_sum W41.1 _
  have h05 : sumW W5 (shwB t a) ≤ 64 := by
    rw [← F.wr, wr_sum W41.2.1]
    have := tok5 hk hm t a g.wf
    omega
  refine ⟨F, ?_, ?_, ?_, fun f r hf hr hl => ?_, fun f r hf hr hl u l hu => ?_⟩
  · have := read_wr (o := 34) d0 (by omega)
    rwa [F.wr] at this
  · have d1 := (Der.par d0).up_to (n := 4) (by omega) (by omega)
    have := read_wr (o := 34) d1 (by
      rw [opens_app, opens_app]
      have e1 : opens [wd "("] = 1 := by decide +kernel
      have e2 : opens [wd ")"] = 0 := by decide +kernel
      omega)
    rw [wr_app, wr_app, wr_one, wr_one, show wrS (wd "(") = [40] from by decide +kernel, show wrS (wd ")") = [41] from by decide +kernel, F.wr] at this
    have e : ([40] ++ shwB t a ++ [41]).length = (shwB t a).length + 2 := by simp
    rw [e] at this
    exact this
  · rw [← F.wr]
    exact d0.bal 0
  · refine readT_tot ?_
    have h1 := w5_br (bareL (shwB t a) f r)
    have h2 := bare_sum (W := W5) hf hr hl
    omega
  · obtain ⟨s, d, hs⟩ := readT_snd hu
    refine ⟨fun e => ?_, der_ok d, ?_⟩
    · subst e
      have h1 := der40 d
      have h2 := hs W40 W41.1
      have h3 := bare_sum (W := W40) hf hr hl
      rw [show 3 - (4 - 1) = 0 from rfl, tok_0] at h1
      have := W41
      omega
    · have h1 := (der_dep d).2
      have h2 := hs W5 W41.2.1
      have h3 := bare_sum (W := W5) hf hr hl
      omega
theorem F47.inj {ks ms ks' ms' : List Str} {a : Bool} {t u : Tr} (ht : F47 ks ms a t) (hu : F47 ks' ms' a u) (h : shwB t a = shwB u a) : t = u := by
  have h1 := ht.rd
  rw [h, hu.rd] at h1
  cases h1
  rfl
/-- the place at which a text is refused -/
def RtA (r : Option Rs) (H : Hp) (Q : VK) : Prop := match r with
  | none => False
  | some (.ok _ _) => ∀ H', Same H H' → Q .non H'
  | some (.bad n) => ∀ H', Same H H' → Q (.int n) H'
def spLAt (o : Nat) : Sp := fun vs H Q _ => ∃ (cs : List Nat) (asks : Bool), vs = [.str (tx cs), .bl asks] ∧ cs.length < 70000 ∧ RtA (readT o asks cs) H Q
abbrev s_lat : Stmt := topS 47
abbrev n_lat : List Str := ["_law_words", "_law_asks", "_law_caught", "_law_tried", "error"]
theorem sc_lat : FnScope n_lat ["_law_words", "_law_asks"] (defScope s_lat) := ⟨rfl, rfl, rfl, by decide +kernel, rfl, by decide +kernel, by decide +kernel⟩
theorem nm_lat : nvB n_lat (defScope s_lat) 0 "_law_words" = true ∧ nvB n_lat (defScope s_lat) 1 "_law_asks" = true ∧ nvB n_lat (defScope s_lat) 2 "_law_caught" = true ∧ nvB n_lat (defScope s_lat) 4 "error" = true ∧ lvB n_lat (defScope s_lat) 2 "_law_caught" = true ∧ lvB n_lat (defScope s_lat) 3 "_law_tried" = true ∧ llB n_lat (defScope s_lat) 4 "error" = true ∧ gvB (defScope s_lat) "BadText" = true ∧ gvB (defScope s_lat) "LineError" = true ∧ gvB (defScope s_lat) "isinstance" = true ∧ gvB (defScope s_lat) "look_of" = true ∧ gvB (defScope s_lat) "test_of" = true := by decide +kernel
theorem cl_lat {Γ : Gm} (dfn : Dfn Γ "_law_at" s_lat ["_law_words", "_law_asks"]) (T : Names Γ) {CL CT CE CN : Addr} {o : Nat} (c_look_of : Cl Γ (CXN Γ) 210 "look_of" (spReadT Γ.K CL CE o false) []) (c_test_of : Cl Γ (CXN Γ) 210 "test_of" (spReadT Γ.K CT CE o true) []) (e_BadText : ErrK Γ 1 "BadText" CE 1 (fsD ["at"]) ["at"]) (gc_LineError : ∃ u, Γ.mg "LineError" = some u ∧ RelV (.ref CN) u) (exy : PySem.W.exmOne Γ.K (.ref CE) (.ref CE) = some true) (exc : ExcC Γ.K CE) (k1 : PySem.W.kitOne Γ.K (.ref CE) (.ref CN) = some true) : Cl Γ CX0 (211) "_law_at" (spLAt o) [] := by
  refine dfn.cl sc_lat (fun vs H Q E h => ?_) (fun f cdv A outer s H vs Q E hg h => ?_)
  · obtain ⟨cs, asks, rfl, _⟩ := h
    rfl
  obtain ⟨cs, asks, rfl, hl, hr⟩ := h
  have nd := sc_lat.nd
  obtain ⟨v0, v1, v2, v4, l2, l3, ll4, g_BadText, g_LineError, g_isinstance, g_look_of, g_test_of⟩ := nm_lat
  refine ⟨_, (pss_cons (pst (i := 2) nd l2 pe_non)
    (pss_tryK hg rfl rfl nd (i := 4) ll4 e_BadText.mg g_BadText takes_no
    (fun _ _ _ tk1 po1 => (pss_one (pst (i := 3) nd l3 (pe_ifB (pt_tr hg.tr (ps 1 v1)) (pclX c_test_of hg.tr tk1 (by omega) g_test_of (pa_cons (ps 0 v0) pa_nil)) (pclX c_look_of hg.tr tk1 (by omega) g_look_of (pa_cons (ps 0 v0) pa_nil))))))
    (fun _ _ _ _ _ hz hf => (pss_one (pst (i := 2) nd l2 (ps 4 v4))))
    (pss_cons (ps_ifB (pt_cm (k_is hg) (ps 2 v2) pe_non (nomark _))
    (pss_one (ps_ret pe_non))
    pss_nil)
    (pss_one ps_never))
    (fun _ _ _ _ _ hz hf => (pss_cons (ps_ifB (pt_cm (k_is hg.tr) (ps 2 v2) pe_non (nomark _))
    (pss_one (ps_ret pe_non))
    pss_nil)
    (pss_one (ps_ret (pe_ifB (pt_tr hg.tr (pcb (call_isK rfl hz hf) g_isinstance T.n_isinstance bt_isinstance (pa_cons (ps 2 v2) (pa_cons (C8.pe_gc (gv_of g_LineError).1 gc_LineError) pa_nil)))) (pe_xfK e_BadText rfl (by walk_at "mem") hz hf (ps 2 v2)) (pe_un (k_neg hg.tr) pe_int)))))))), ?_⟩
  refine st_start (σ := [some _, some _, none, none, none]) rfl ?_
  walk_at "dn"
  dsimp only [G.tTryK]
  walk_at "dn"
  have key : ∀ (C : Addr) (a : Bool) (E' : XK), asks = a → (∀ n d H', Same H H' → H' d = some (.xd (fsD ["at"] [.int n])) → (∀ H2, Same H H2 → Q (.int n) H2) → E' (.ref CE) (some d) H') → spReadT Γ.K C CE o a [.str (tx cs)] H (fun _ H1 => Q .non H1) E' := fun C a E' ea he => by
    refine ⟨cs, rfl, hl, ?_⟩
    subst ea
    generalize readT o asks cs = R at hr ⊢
    rcases R with _ | ⟨t, l⟩ | n
    · exact False.elim hr
    · exact fun _ H' s _ => hr H' s
    · exact fun d H' s hd => he n d H' s hd hr
  refine br_b (fun ea => key CT true _ ea fun n d H' s hd q => ?_) fun ea => key CL false _ ea fun n d H' s hd q => ?_
  all_goals
    refine ⟨true, exy, fun _ a na => ?_, fun z => by cases z⟩
    walk_at "dn"
    exact ⟨CE, d, _, .ref CN, .ref CN, true, rfl, rfl, rfl, hd, exc, .own CN, k1, rfl, rfl, d, _, _, rfl, hd, rfl, q _ s⟩
/-! ### the place of what is wrong: an automaton with open brackets -/
inductive Wt where
  | look | test | elook | easks | brk | name | ename
deriving DecidableEq
inductive Op where
  | sq | look | test | marked | found | same
deriving DecidableEq
def plusS (s : List Nat) : Bool := decide (s.head? = some 43 ∨ s.head? = some 45)
def endSg (a : Bool) (s : List Nat) : Bool := if a = true then decide (s = wd "|" ∨ s = wd "&" ∨ s = wd "^") else decide (s = wd "|" ∨ s = wd "&" ∨ s = wd ">>")
/-- what is wanted, what is open (the last one ahead) behind a symbol -/
def gone : Wt → List Op → List Nat → Option (Wt × List Op)
  | .brk, op, s => if s = wd "(" then some (if op.head? = some .marked then .name else .look, op) else none
  | .name, op, s => if nmB s = true then some (.ename, op) else none
  | .look, op, s => if s = wd "here" ∨ plusS s = true then some (.elook, op) else if s = wd "[" then some (.test, .sq :: op) else if s = wd "(" then some (.look, .look :: op) else none
  | .test, op, s => if s = wd "~" then some (.test, op) else if s = wd "always" then some (.easks, op) else if s = wd "(" then some (.test, .test :: op) else
      if s = wd "marked" then some (.brk, .marked :: op) else if s = wd "found" then some (.brk, .found :: op) else if s = wd "same" then some (.brk, .same :: op) else none
  | .elook, op, s => if endSg false s = true then some (.look, op) else if s = wd ")" ∧ op.head? = some .look then some (.elook, op.tail) else if s = wd "," ∧ op.head? = some .same then some (.look, .found :: op.tail) else
      if s = wd ")" ∧ op.head? = some .found then some (.easks, op.tail) else none
  | .ename, op, s => if s = wd ")" then some (.easks, op.tail) else none
  | .easks, op, s => if endSg true s = true then some (.test, op) else if s = wd ")" ∧ op.head? = some .test then some (.easks, op.tail) else if s = wd "]" ∧ op.head? = some .sq then some (.look, op.tail) else none
def wantW (a : Bool) : Wt := if a = true then .test else .look
def endW (a : Bool) : Wt := if a = true then .easks else .elook
/-- over symbols that end in none: the place of what is wrong -/
def runA (a0 : Bool) (sz : Nat) : Wt → List Op → List Sy → Option Nat
  | _, _, [] => some 0
  | w, op, (s, p) :: r => if s = [] then (if w = endW a0 ∧ op = [] ∧ ¬ p < sz then none else some p) else match gone w op s with
    | none => some p
    | some st => runA a0 sz st.1 st.2 r
section
variable {a0 : Bool} {sz : Nat}
theorem runA_step {w w' : Wt} {op op' : List Op} {l : List Sy} (n : hdS l ≠ []) (h : gone w op (hdS l) = some (w', op')) : runA a0 sz w op l = runA a0 sz w' op' l.tail := by
  cases l with
  | nil => exact absurd rfl n
  | cons x r =>
    obtain ⟨s, p⟩ := x
    have n : s ≠ [] := n
    have h : gone w op s = some (w', op') := h
    show (if s = [] then _ else _) = _
    rw [if_neg n, h]
    rfl
theorem runA_bad {w : Wt} {op : List Op} {l : List Sy} (hl : 0 < l.length) (hf : ¬ (w = endW a0 ∧ op = [])) (h : gone w op (hdS l) = none) : runA a0 sz w op l = some (hdP l) := by
  cases l with
  | nil => simp at hl
  | cons x r =>
    obtain ⟨s, p⟩ := x
    have h : gone w op s = none := h
    show (if s = [] then _ else _) = some p
    by_cases e : s = []
    · rw [if_pos e, if_neg (fun z => hf ⟨z.1, z.2.1⟩)]
    · rw [if_neg e, h]
/-- the signs from place k on do not stand next -/
def NxS (a : Bool) (n : Nat) (l : List Sy) : Prop := ∀ m, 3 - n ≤ m → m < 3 → hdS l ≠ sgA a m
theorem nxs_end {a : Bool} {l : List Sy} (h : NxS a 3 l) : endSg a (hdS l) = false := by
  have h0 := h 0 (by omega) (by omega)
  have h1 := h 1 (by omega) (by omega)
  have h2 := h 2 (by omega) (by omega)
  have e : ∀ b : Bool, sgA b 0 = wd "|" ∧ sgA b 1 = (if b = true then wd "^" else wd "&") ∧ sgA b 2 = (if b = true then wd "&" else wd ">>") := by decide +kernel
  obtain ⟨e0, e1, e2⟩ := e a
  rw [e0] at h0
  rw [e1] at h1
  rw [e2] at h2
  unfold endSg
  cases a with
  | true =>
    rw [if_pos rfl] at h1 h2 ⊢
    exact decide_eq_false fun z => by rcases z with z | z | z <;> contradiction
  | false =>
    rw [if_neg (by decide)] at h1 h2 ⊢
    exact decide_eq_false fun z => by rcases z with z | z | z <;> contradiction
theorem end_sg {a : Bool} {m : Nat} (h : m < 3) : endSg a (sgA a m) = true ∧ sgA a m ≠ [] := by
  have : m = 0 ∨ m = 1 ∨ m = 2 := by omega
  rcases this with rfl | rfl | rfl <;> cases a <;> decide +kernel
/-- a reading and the automaton go together -/
def Sim (a0 : Bool) (sz : Nat) (a : Bool) (w : Wt) (op opE : List Op) (l : List Sy) (r : Option Rs) : Prop := (∀ t l', r = some (.ok t l') → runA a0 sz w op l = runA a0 sz (endW a) opE l') ∧ ∀ p, r = some (.bad p) → runA a0 sz w op l = some p
theorem Sim.bad {a : Bool} {w : Wt} {op opE : List Op} {l : List Sy} {p : Nat} (h : runA a0 sz w op l = some p) : Sim a0 sz a w op opE l (some (.bad p)) := ⟨(fun _ _ z => nomatch z), fun q z => by cases z; exact h⟩
theorem Sim.ok {a : Bool} {w : Wt} {op opE : List Op} {l l' : List Sy} {t : Tr} (h : runA a0 sz w op l = runA a0 sz (endW a) opE l') : Sim a0 sz a w op opE l (some (.ok t l')) := ⟨fun _ _ z => by cases z; exact h, (fun q z => nomatch z)⟩
theorem Sim.pre {a : Bool} {w w' : Wt} {op op' opE : List Op} {l l' : List Sy} {r : Option Rs} (e : runA a0 sz w op l = runA a0 sz w' op' l') (h : Sim a0 sz a w' op' opE l' r) : Sim a0 sz a w op opE l r :=
  ⟨fun t l2 z => e.trans (h.1 t l2 z), fun p z => e.trans (h.2 p z)⟩
theorem Sim.none {a : Bool} {w : Wt} {op opE : List Op} {l : List Sy} : Sim a0 sz a w op opE l none := ⟨(fun _ _ z => nomatch z), (fun _ z => nomatch z)⟩
/-- a symbol taken by both -/
theorem Sim.take {a : Bool} {w : Wt} {op opE : List Op} {l : List Sy} {r : Option Rs} (x : List Nat) (w' : Wt) (op' : List Op) (e : hdS l = x) (hx : x ≠ []) (g : gone w op x = some (w', op')) (h : Sim a0 sz a w' op' opE l.tail r) : Sim a0 sz a w op opE l r :=
  .pre (runA_step (by rw [e]; exact hx) (by rw [e]; exact g)) h
/-- what is asked of the reading within brackets -/
structure SimR (a0 : Bool) (sz : Nat) (R : Bool → List Sy → Option Rs) : Prop where
  sim : ∀ a op l, VsL l → TmL l → Sim a0 sz a (wantW a) op op l (R a l)
  nx : ∀ a l, VsL l → TmL l → ∀ t l', R a l = some (.ok t l') → NxS a 3 l'
variable {R : Bool → List Sy → Option Rs}
/-- a symbol that must stand -/
theorem need_sim {a : Bool} {w w' : Wt} {op op' opE : List Op} {l : List Sy} {k : List Sy → Option Rs} (x : List Nat) (hx : x ≠ []) (v : VsL l) (tm : TmL l) (hy : gone w op x = some (w', op')) (hn : hdS l ≠ x → gone w op (hdS l) = none) (hf : ¬ (w = endW a0 ∧ op = []))
    (hk : ∀ l', l' = l.tail → VsL l' → TmL l' → Sim a0 sz a w' op' opE l' (k l')) : Sim a0 sz a w op opE l (needR x l k) := by
  unfold needR
  by_cases c : hdS l = x
  · rw [if_pos c]
    have q := tm.one (by rw [c]; exact hx)
    exact .take x w' op' c hx hy (hk _ rfl (by rw [tail_d]; exact v.drop 1) (by rw [tail_d]; exact tm.drop q))
  · rw [if_neg c]
    exact .bad (runA_bad tm.pos hf (hn c))
/-- a formula within brackets, then a symbol that must stand -/
theorem brk_sim (hS : SndR R) (hR : SimR a0 sz R) {a : Bool} (b : Bool) {w : Wt} {opE op0 op' : List Op} (x : List Nat) {l : List Sy} {k : Tr → List Sy → Option Rs} (hx : x ≠ []) (v : VsL l) (tm : TmL l)
    (hop : op0 ≠ []) (hy : gone (endW b) op0 x = some (w, op')) (hn : ∀ s, endSg b s = false → s ≠ x → gone (endW b) op0 s = none)
    (hk : ∀ t l', VsL l' → TmL l' → Sim a0 sz a w op' opE l' (k t l')) : Sim a0 sz a (wantW b) op0 opE l (bindR (R b l) fun t l2 => needR x l2 fun l3 => k t l3) := by
  obtain ⟨h1, h2⟩ := hR.sim b op0 l v tm
  have nx := hR.nx b l v tm
  have hs := hS b l v tm
  rcases hr : R b l with _ | ⟨t, l1⟩ | p
  · exact .none
  · obtain ⟨j, j0, j1, rfl, _⟩ := hs t l1 hr
    exact .pre (h1 t _ hr) (need_sim x hx (v.drop j) (tm.drop j1) hy (hn _ (nxs_end (nx t _ hr))) (fun z => hop z.2) fun l' _ v' tm' => hk t l' v' tm')
  · exact .bad (h2 p hr)
end
section
variable {a0 : Bool} {sz : Nat} {R : Bool → List Sy → Option Rs}
theorem gone_par {a : Bool} {op : List Op} {s : List Nat} (o : Op) (ho : (a = false ∧ o = .look) ∨ (a = true ∧ o = .test)) (n : endSg a s = false) (h : s ≠ wd ")") : gone (endW a) (o :: op) s = none := by
  rcases ho with ⟨rfl, rfl⟩ | ⟨rfl, rfl⟩
  · show gone .elook _ _ = _
    rw [gone, if_neg (by rw [n]; decide), if_neg (fun z => h z.1), if_neg (fun z => nomatch z.2), if_neg (fun z => h z.1)]
  · show gone .easks _ _ = _
    rw [gone, if_neg (by rw [n]; decide), if_neg (fun z => h z.1), if_neg (fun z => nomatch z.2)]
theorem nofin {w : Wt} {op : List Op} (h : w = .look ∨ w = .test ∨ w = .brk ∨ w = .name ∨ w = .ename) : ¬ (w = endW a0 ∧ op = []) := fun z => by
  rw [z.1] at h
  unfold endW at h
  cases a0 <;> simp at h
theorem sgL_sim (hS : SndR R) (hR : SimR a0 sz R) {op : List Op} {l : List Sy} (v : VsL l) (tm : TmL l) (hn : hdS l ≠ wd "[") : Sim a0 sz false .look op op l (sgL R l) := by
  unfold sgL
  by_cases h1 : hdS l = wd "here"
  · rw [if_pos h1]
    exact .take _ .elook op h1 (by decide +kernel) (by rw [gone, if_pos (.inl rfl)]) (.ok rfl)
  rw [if_neg h1]
  by_cases h2 : hdS l = wd "("
  · rw [if_pos h2]
    have q := tm.one (by rw [h2]; decide +kernel)
    refine .take _ .look (.look :: op) h2 (by decide +kernel) (by rw [gone, if_neg (by decide +kernel), if_neg (by decide +kernel), if_pos rfl]) ?_
    rw [tail_d]
    exact brk_sim hS hR false (wd ")") (by decide +kernel) (k := fun t l3 => some (.ok t l3)) (v.drop 1) (tm.drop q) (fun z => nomatch z) (w := .elook) (op' := op) (by show gone .elook (.look :: op) (wd ")") = _; rw [gone, if_neg (by decide +kernel), if_pos ⟨rfl, rfl⟩]; rfl) (fun s n h => gone_par .look (.inl ⟨rfl, rfl⟩) n h) fun t l' _ _ => .ok rfl
  rw [if_neg h2]
  by_cases h3 : (hdS l).head? = some 43 ∨ (hdS l).head? = some 45
  · rw [if_pos h3]
    have hne : hdS l ≠ [] := fun z => by rw [z] at h3; simp at h3
    exact .take _ .elook op rfl hne (by rw [gone, if_pos (.inr (decide_eq_true h3))]) (.ok rfl)
  · rw [if_neg h3]
    exact .bad (runA_bad tm.pos (nofin (.inl rfl)) (by rw [gone, if_neg (fun z => z.elim h1 fun z => h3 (of_decide_eq_true z)), if_neg hn, if_neg h2]))
theorem sgT_sim (hS : SndR R) (hR : SimR a0 sz R) {op : List Op} {l : List Sy} (v : VsL l) (tm : TmL l) (hn : hdS l ≠ wd "~") : Sim a0 sz true .test op op l (sgT R l) := by
  unfold sgT
  by_cases h1 : hdS l = wd "always"
  · rw [if_pos h1]
    exact .take _ .easks op h1 (by decide +kernel) (by rw [gone, if_neg (by decide +kernel), if_pos rfl]) (.ok rfl)
  rw [if_neg h1]
  by_cases h2 : hdS l = wd "("
  · rw [if_pos h2]
    have q := tm.one (by rw [h2]; decide +kernel)
    refine .take _ .test (.test :: op) h2 (by decide +kernel) (by rw [gone, if_neg (by decide +kernel), if_neg (by decide +kernel), if_pos rfl]) ?_
    rw [tail_d]
    exact brk_sim hS hR true (wd ")") (by decide +kernel) (k := fun t l3 => some (.ok t l3)) (v.drop 1) (tm.drop q) (fun z => nomatch z) (w := .easks) (op' := op) (by show gone .easks (.test :: op) (wd ")") = _; rw [gone, if_neg (by decide +kernel), if_pos ⟨rfl, rfl⟩]; rfl) (fun s n h => gone_par .test (.inr ⟨rfl, rfl⟩) n h) fun t l' _ _ => .ok rfl
  rw [if_neg h2]
  /- a word with a bracket behind it -/
  have fn : ∀ (x : List Nat) (o : Op) (w' : Wt) (k : List Sy → Option Rs), hdS l = x → x ≠ [] → gone .test op x = some (.brk, o :: op) → w' = (if o = .marked then .name else .look) → (∀ l2, VsL l2 → TmL l2 → Sim a0 sz true w' (o :: op) op l2 (k l2)) →
      Sim a0 sz true .test op op l (needR (wd "(") l.tail k) := fun x o w' k hx nx g hw hk => by
    have q := tm.one (by rw [hx]; exact nx)
    refine .take x .brk (o :: op) hx nx g ?_
    rw [tail_d]
    refine need_sim (wd "(") (by decide +kernel) (v.drop 1) (tm.drop q) (w' := w') (op' := o :: op) ?_ (fun c => by rw [gone, if_neg c]) (nofin (.inr (.inr (.inl rfl)))) fun l' _ v' tm' => hk l' v' tm'
    rw [gone, if_pos rfl, hw]
    congr 2
    by_cases ho : o = .marked
    · rw [if_pos ho, if_pos (by rw [ho]; rfl)]
    · rw [if_neg ho, if_neg (fun z => ho (by simpa using z))]
  by_cases h3 : hdS l = wd "marked"
  · rw [if_pos h3]
    refine fn _ .marked .name _ h3 (by decide +kernel) (by rw [gone, if_neg (by decide +kernel), if_neg (by decide +kernel), if_neg (by decide +kernel), if_pos rfl]) rfl fun l2 v2 tm2 => ?_
    by_cases hm : nmB (hdS l2) = true
    · rw [if_pos hm]
      obtain ⟨_, hne⟩ := nmB_nm hm
      have q := tm2.one hne
      refine .take _ .ename (.marked :: op) rfl hne (by rw [gone, if_pos hm]) ?_
      exact need_sim (wd ")") (by decide +kernel) (by rw [tail_d]; exact v2.drop 1) (by rw [tail_d]; exact tm2.drop q) (w' := .easks) (op' := op) (by rw [gone, if_pos rfl]; rfl) (fun c => by rw [gone, if_neg c]) (nofin (.inr (.inr (.inr (.inr rfl))))) fun l' e _ _ => by
        subst e
        exact .ok rfl
    · rw [if_neg hm]
      exact .bad (runA_bad tm2.pos (nofin (.inr (.inr (.inr (.inl rfl))))) (by rw [gone, if_neg hm]))
  rw [if_neg h3]
  by_cases h4 : hdS l = wd "found"
  · rw [if_pos h4]
    refine fn _ .found .look _ h4 (by decide +kernel) (by rw [gone, if_neg (by decide +kernel), if_neg (by decide +kernel), if_neg (by decide +kernel), if_neg (by decide +kernel), if_pos rfl]) rfl fun l2 v2 tm2 => ?_
    exact brk_sim hS hR false (wd ")") (by decide +kernel) (k := fun t l4 => some (.ok (.one "found" t) l4)) v2 tm2 (fun z => nomatch z) (w := .easks) (op' := op) (by show gone .elook (.found :: op) (wd ")") = _; rw [gone, if_neg (by decide +kernel), if_neg (fun z => nomatch z.2), if_neg (fun z => nomatch z.2), if_pos ⟨rfl, rfl⟩]; rfl)
      (fun s n h => by show gone .elook _ _ = _; rw [gone, if_neg (by rw [n]; decide), if_neg (fun z => h z.1), if_neg (fun z => nomatch z.2), if_neg (fun z => h z.1)]) fun t l' _ _ => .ok rfl
  rw [if_neg h4]
  by_cases h5 : hdS l = wd "same"
  · rw [if_pos h5]
    refine fn _ .same .look _ h5 (by decide +kernel) (by rw [gone, if_neg (by decide +kernel), if_neg (by decide +kernel), if_neg (by decide +kernel), if_neg (by decide +kernel), if_neg (by decide +kernel), if_pos rfl]) rfl fun l2 v2 tm2 => ?_
    exact brk_sim hS hR false (wd ",") (by decide +kernel) (k := fun t l4 => bindR (R false l4) fun u l5 => needR (wd ")") l5 fun l6 => some (.ok (.two "same" t u) l6)) v2 tm2 (fun z => nomatch z) (w := .look) (op' := .found :: op) (by show gone .elook (.same :: op) (wd ",") = _; rw [gone, if_neg (by decide +kernel), if_neg (fun z => nomatch z.2), if_pos ⟨rfl, rfl⟩]; rfl)
      (fun s n h => by show gone .elook _ _ = _; rw [gone, if_neg (by rw [n]; decide), if_neg (fun z => nomatch z.2), if_neg (fun z => h z.1), if_neg (fun z => nomatch z.2)]) fun t l' v3 tm3 =>
      brk_sim hS hR false (wd ")") (by decide +kernel) (k := fun u l6 => some (.ok (.two "same" t u) l6)) v3 tm3 (fun z => nomatch z) (w := .easks) (op' := op) (by show gone .elook (.found :: op) (wd ")") = _; rw [gone, if_neg (by decide +kernel), if_neg (fun z => nomatch z.2), if_neg (fun z => nomatch z.2), if_pos ⟨rfl, rfl⟩]; rfl)
      (fun s n h => by show gone .elook _ _ = _; rw [gone, if_neg (by rw [n]; decide), if_neg (fun z => h z.1), if_neg (fun z => nomatch z.2), if_neg (fun z => h z.1)]) fun u l'' _ _ => .ok rfl
  rw [if_neg h5]
  exact .bad (runA_bad tm.pos (nofin (.inr (.inl rfl))) (by rw [gone, if_neg hn, if_neg h1, if_neg h2, if_neg h3, if_neg h4, if_neg h5]))
end
section
variable {a0 : Bool} {sz : Nat} {R : Bool → List Sy → Option Rs}
/-- behind a reading -/
theorem Sim.bind {a : Bool} {w : Wt} {op opE : List Op} {l : List Sy} {r : Option Rs} {k : Tr → List Sy → Option Rs} (b : Bool) (op2 : List Op) (h : Sim a0 sz b w op op2 l r) (hk : ∀ t l', r = some (.ok t l') → Sim a0 sz a (endW b) op2 opE l' (k t l')) : Sim a0 sz a w op opE l (bindR r k) := by
  rcases r with _ | ⟨t, l1⟩ | p
  · exact .none
  · exact .pre (h.1 t l1 rfl) (hk t l1 rfl)
  · exact .bad (h.2 p rfl)
theorem gdR_sim (hS : SndR R) (hR : SimR a0 sz R) : ∀ (m : Nat) (acc : List Tr) (op : List Op) (l : List Sy), VsL l → TmL l → Sim a0 sz false .look op op l (gdR R m acc l) := by
  intro m
  induction m with
  | zero => intro acc op l _ _; exact .none
  | succ m ih =>
    intro acc op l v tm
    unfold gdR
    by_cases e : hdS l = wd "["
    · rw [if_pos e]
      have q := tm.one (by rw [e]; decide +kernel)
      refine .take _ .test (.sq :: op) e (by decide +kernel) (by rw [gone, if_neg (by decide +kernel), if_pos rfl]) ?_
      rw [tail_d]
      exact brk_sim hS hR true (wd "]") (by decide +kernel) (k := fun t l3 => gdR R m (acc ++ [t]) l3) (v.drop 1) (tm.drop q) (fun z => nomatch z) (w := .look) (op' := op) (by show gone .easks (.sq :: op) (wd "]") = _; rw [gone, if_neg (by decide +kernel), if_neg (fun z => nomatch z.2), if_pos ⟨rfl, rfl⟩]; rfl)
        (fun s n h => by show gone .easks _ _ = _; rw [gone, if_neg (by rw [n]; decide), if_neg (fun z => nomatch z.2), if_neg (fun z => h z.1)]) fun t l' v' tm' => ih _ op l' v' tm'
    · rw [if_neg e]
      exact .bind false op (sgL_sim hS hR v tm e) fun t l' _ => .ok rfl
theorem tnR_sim (hS : SndR R) (hR : SimR a0 sz R) : ∀ (m c : Nat) (op : List Op) (l : List Sy), VsL l → TmL l → Sim a0 sz true .test op op l (tnR R m c l) := by
  intro m
  induction m with
  | zero => intro c op l _ _; exact .none
  | succ m ih =>
    intro c op l v tm
    unfold tnR
    by_cases e : hdS l = wd "~"
    · rw [if_pos e]
      have q := tm.one (by rw [e]; decide +kernel)
      refine .take _ .test op e (by decide +kernel) (by rw [gone, if_pos rfl]) ?_
      rw [tail_d]
      exact ih _ op _ (v.drop 1) (tm.drop q)
    · rw [if_neg e]
      exact .bind true op (sgT_sim hS hR v tm e) fun t l' _ => .ok rfl
theorem gone_sg {a : Bool} {m : Nat} (h : m < 3) (op : List Op) : gone (endW a) op (sgA a m) = some (wantW a, op) := by
  have e := (end_sg (a := a) h).1
  cases a with
  | true =>
    show gone .easks _ _ = _
    rw [gone, if_pos e]
    rfl
  | false =>
    show gone .elook _ _ = _
    rw [gone, if_pos e]
    rfl
theorem lpR_sim {a : Bool} {n m : Nat} {w : Str} {f : List Sy → Option Rs} (hm : m < 3) (hf : ∀ op l, VsL l → TmL l → Sim a0 sz a (wantW a) op op l (f l)) (hs : ∀ l, VsL l → TmL l → Snd a n l (f l)) : ∀ (k : Nat) (t : Tr) (op : List Op) (l : List Sy), VsL l → TmL l → Sim a0 sz a (endW a) op op l (lpR f (sgA a m) w k t l) := by
  intro k
  induction k with
  | zero => intro t op l _ _; exact .none
  | succ k ih =>
    intro t op l v tm
    unfold lpR
    by_cases e : hdS l = sgA a m
    · rw [if_pos e]
      have hne := (end_sg (a := a) hm).2
      have q := tm.one (by rw [e]; exact hne)
      refine .take _ (wantW a) op e hne (gone_sg hm op) ?_
      rw [tail_d]
      refine .bind a op (hf op _ (v.drop 1) (tm.drop q)) fun t2 l' h => ?_
      obtain ⟨j, j0, j1, rfl, _⟩ := hs _ (v.drop 1) (tm.drop q) _ _ h
      rw [List.length_drop] at j1
      rw [List.drop_drop]
      exact ih _ op _ (v.drop _) (tm.drop (by omega))
    · rw [if_neg e]
      exact .ok rfl
/-- the sign does not stand behind the loop; tighter ones do not either -/
theorem lpR_nx {a : Bool} {n k : Nat} {w : Str} {f : List Sy → Option Rs} (hn : n < 3) (hf : ∀ l, VsL l → TmL l → ∀ t l', f l = some (.ok t l') → NxS a n l') (hs : ∀ l, VsL l → TmL l → Snd a k l (f l)) : ∀ (j : Nat) (t : Tr) (l : List Sy), VsL l → TmL l → NxS a n l → ∀ t' l', lpR f (sgA a (2 - n)) w j t l = some (.ok t' l') → NxS a (n + 1) l' := by
  intro j
  induction j with
  | zero => intro t l _ _ _ t' l' h; cases h
  | succ j ih =>
    intro t l v tm nx t' l' h
    unfold lpR at h
    by_cases e : hdS l = sgA a (2 - n)
    · rw [if_pos e] at h
      have hne := (end_sg (a := a) (m := 2 - n) (by omega)).2
      have q := tm.one (by rw [e]; exact hne)
      obtain ⟨t1, l1, h1, h⟩ := bindR_s h
      rw [tail_d] at h1
      have n1 := hf _ (v.drop 1) (tm.drop q) _ _ h1
      obtain ⟨i, i0, i1, rfl, _⟩ := hs _ (v.drop 1) (tm.drop q) _ _ h1
      rw [List.length_drop] at i1
      rw [List.drop_drop] at h n1
      exact ih _ _ (v.drop _) (tm.drop (by omega)) n1 _ _ h
    · rw [if_neg e] at h
      cases h
      intro m h1 h2
      by_cases c : m = 2 - n
      · rw [c]; exact e
      · exact nx m (by omega) h2
theorem rdK_sim (hS : SndR R) (hR : SimR a0 sz R) (a : Bool) : ∀ (n : Nat), n ≤ 3 → ∀ op l, VsL l → TmL l → Sim a0 sz a (wantW a) op op l (rdK R a n l)
  | 0, _, op, l, v, tm => by
    cases a with
    | true => exact tnR_sim hS hR _ _ op l v tm
    | false => exact gdR_sim hS hR _ _ op l v tm
  | n + 1, hn, op, l, v, tm => by
    show Sim a0 sz a (wantW a) op op l (levR (rdK R a n) (sgA a (2 - n)) (wdA a (2 - n)) l)
    unfold levR
    refine .bind a op (rdK_sim hS hR a n (by omega) op l v tm) fun t l' h => ?_
    obtain ⟨k, k0, k1, rfl, _⟩ := rdK_snd hS a n (by omega) l v tm _ _ h
    exact lpR_sim (by omega) (fun op l v tm => rdK_sim hS hR a n (by omega) op l v tm) (fun l v tm => rdK_snd hS a n (by omega) l v tm) _ _ op _ (v.drop k) (tm.drop k1)
theorem rdK_nx (hS : SndR R) (a : Bool) : ∀ (n : Nat), n ≤ 3 → ∀ l, VsL l → TmL l → ∀ t l', rdK R a n l = some (.ok t l') → NxS a n l'
  | 0, _, l, v, tm, t, l', h => fun m h1 h2 => by omega
  | n + 1, hn, l, v, tm, t, l', h => by
    have h : levR (rdK R a n) (sgA a (2 - n)) (wdA a (2 - n)) l = some (.ok t l') := h
    unfold levR at h
    obtain ⟨t1, l1, h1, h⟩ := bindR_s h
    have n1 := rdK_nx hS a n (by omega) l v tm _ _ h1
    obtain ⟨k, k0, k1, rfl, _⟩ := rdK_snd hS a n (by omega) l v tm _ _ h1
    exact lpR_nx (by omega) (fun l v tm t l' h => rdK_nx hS a n (by omega) l v tm t l' h) (fun l v tm => rdK_snd hS a n (by omega) l v tm) _ _ _ (v.drop k) (tm.drop k1) n1 _ _ h
theorem rd_simR : ∀ o, SimR a0 sz (rd o)
  | 0 => ⟨fun a op l _ _ => .none, fun a l _ _ t l' h => nomatch h⟩
  | o + 1 => ⟨fun a op l v tm => rdK_sim (rd_snd o) (rd_simR o) a 3 (Nat.le_refl _) op l v tm, fun a l v tm t l' h => rdK_nx (rd_snd o) a 3 (Nat.le_refl _) l v tm t l' h⟩
end
theorem hd_one {l : List Sy} (h : 0 < l.length) : l = (hdS l, hdP l) :: l.tail := by
  cases l with
  | nil => simp at h
  | cons x r => rfl
/-- a text is refused where the automaton stops -/
theorem readT_run {o : Nat} {a : Bool} {cs : List Nat} (h : readT o a cs ≠ none) : (∃ t l, readT o a cs = some (.ok t l) ∧ runA a cs.length (wantW a) [] (lexT cs) = none) ∨ ∃ p, readT o a cs = some (.bad p) ∧ runA a cs.length (wantW a) [] (lexT cs) = some p := by
  obtain ⟨hv, htm⟩ := lexT_tm cs
  have S := (rd_simR (a0 := a) (sz := cs.length) o).sim a [] _ hv htm
  have nx := (rd_simR (a0 := a) (sz := cs.length) o).nx a _ hv htm
  have snd := rd_snd o a _ hv htm
  obtain ⟨p1, p2⟩ := lexA_pl (cs.length + 1) 0 cs (Nat.lt_succ_self _)
  unfold readT at h ⊢
  rcases hr : rd o a (lexT cs) with _ | ⟨t, l⟩ | p
  · rw [hr] at h; exact absurd rfl h
  · have e := S.1 t l hr
    have n1 := nxs_end (nx t l hr)
    obtain ⟨k, k0, k1, rfl, _⟩ := snd t l hr
    have tm1 := htm.drop k1
    rw [bind_ok]
    rw [e]
    by_cases hp : hdP ((lexT cs).drop k) < cs.length
    · rw [if_pos hp]
      refine .inr ⟨_, rfl, ?_⟩
      by_cases hs : hdS ((lexT cs).drop k) = []
      · rw [hd_one tm1.pos]
        show (if hdS _ = [] then _ else _) = _
        rw [if_pos hs, if_neg (fun z => z.2.2 hp)]
        rfl
      · rw [hd_one tm1.pos]
        show (if hdS _ = [] then _ else _) = _
        rw [if_neg hs]
        have g : gone (endW a) [] (hdS ((lexT cs).drop k)) = none := by
          cases a with
          | true =>
            show gone .easks _ _ = _
            rw [gone, if_neg (by rw [n1]; decide), if_neg (fun z => nomatch z.2), if_neg (fun z => nomatch z.2)]
          | false =>
            show gone .elook _ _ = _
            rw [gone, if_neg (by rw [n1]; decide), if_neg (fun z => nomatch z.2), if_neg (fun z => nomatch z.2), if_neg (fun z => nomatch z.2)]
        rw [g]
        rfl
    · rw [if_neg hp]
      refine .inl ⟨_, _, rfl, ?_⟩
      have hs : hdS ((lexT cs).drop k) = [] := by
        by_cases c : hdS ((lexT cs).drop k) = []
        · exact c
        · exfalso
          have q := tm1.one c
          rw [List.length_drop] at q
          have hm : (lexT cs)[k] ∈ (lexT cs).dropLast := by
            have hk2 : k < (lexT cs).dropLast.length := by rw [List.length_dropLast]; omega
            have := List.getElem_mem hk2
            rwa [List.getElem_dropLast] at this
          have := p1 _ hm
          apply hp
          rw [drop_c k1]
          show ((lexT cs)[k]).2 < cs.length
          omega
      rw [hd_one tm1.pos]
      show (if hdS _ = [] then _ else _) = _
      rw [if_pos hs, if_pos ⟨rfl, rfl, hp⟩]
  · exact .inr ⟨p, rfl, S.2 p hr⟩
/-! ### the law's own symbols -/
/-- what the law puts in that no text has -/
def bads : List (List Nat) := [wd ">", wd "+", wd "-", wd "?", wd "+abcdefghi", wd "abcdefghi", wd "A", wd "1", wd "=", wd "."]
def LSy (s : List Nat) : Prop := Vs s ∨ s ∈ bads
def sg1 (s : List Nat) : Bool := match s with
  | [c] => sgnB c
  | _ => false
/-- what stands behind a symbol that is no single sign -/
def Gap (Y : List Nat) : Prop := ∀ c, Y.head? = some c → c = 32 ∨ sgnB c = true
theorem Gap.beg {Y : List Nat} (h : Gap Y) : begL Y = false := by
  cases Y with
  | nil => rfl
  | cons c r =>
    show isL c = false
    cases e : isL c with
    | false => rfl
    | true =>
      obtain ⟨h1, h2, _⟩ := isL_no e
      rcases h c rfl with z | z
      · exact absurd z h2
      · rw [h1] at z; cases z
theorem sg1_end {s : List Nat} (h : sg1 s = true) : endL s = false := by
  match s, h with
  | [c], h =>
    show isL c = false
    exact (sgnB_noL h).1
theorem symA_vsG {s Y : List Nat} (h : Vs s) (hY : sg1 s = false → Gap Y) : symA (s ++ Y) = s := symA_of h fun e => by
  cases c : sg1 s with
  | true => rw [sg1_end c] at e; cases e
  | false => exact (hY c).beg
theorem symA_run {c : Nat} {Y : List Nat} (h1 : sgnB c = false) (h2 : (c :: Y).take 2 ≠ [62, 62]) (h3 : runL ((c :: Y).drop (if c = 43 ∨ c = 45 then 1 else 0)) = 0 ∨ 8 < runL ((c :: Y).drop (if c = 43 ∨ c = 45 then 1 else 0))) : symA (c :: Y) = [] := by
  rw [symA_c, if_neg (by rw [h1]; decide), if_neg h2, if_neg (by omega)]
theorem Gap.run {Y : List Nat} (h : Gap Y) : runL Y = 0 := by
  have := runL_app (s := []) (fun _ z => nomatch z) h.beg
  exact this
theorem Gap.no62 {Y : List Nat} {c : Nat} (h : Gap Y) : (c :: Y).take 2 ≠ [62, 62] := fun z => by
  cases Y with
  | nil => cases z
  | cons d r =>
    have e : d = 62 := by
      simp only [List.take_succ_cons, List.cons.injEq] at z
      exact z.2.1
    rcases h d rfl with w | w
    · omega
    · have := (sgnB_noL w).2.2.1; exact this e
theorem symA_bad {s Y : List Nat} (h : s ∈ bads) (hY : Gap Y) : symA (s ++ Y) = [] := by
  have ab : ∀ Z : List Nat, Gap Z → runL (wd "abcdefghi" ++ Z) = 9 := fun Z hZ => by
    have := runL_app (s := wd "abcdefghi") (Y := Z) (by decide +kernel) hZ.beg
    rw [this]
    decide +kernel
  have one : ∀ c : Nat, sgnB c = false → isL c = false → ¬ (c = 43 ∨ c = 45) → symA (c :: Y) = [] := fun c h1 h2 h3 => symA_run h1 hY.no62 (.inl (by
    rw [if_neg h3, List.drop_zero]
    show (if isL c = true then _ else 0) = 0
    rw [if_neg (by rw [h2]; decide)]))
  unfold bads at h
  simp only [List.mem_cons, List.not_mem_nil, or_false] at h
  rcases h with rfl | rfl | rfl | rfl | rfl | rfl | rfl | rfl | rfl | rfl
  · rw [show wd ">" = [62] from by decide +kernel]; exact one 62 (by decide +kernel) (by decide) (by decide)
  · rw [show wd "+" = [43] from by decide +kernel]; exact symA_run (by decide +kernel) hY.no62 (.inl hY.run)
  · rw [show wd "-" = [45] from by decide +kernel]; exact symA_run (by decide +kernel) hY.no62 (.inl hY.run)
  · rw [show wd "?" = [63] from by decide +kernel]; exact one 63 (by decide +kernel) (by decide) (by decide)
  · rw [show wd "+abcdefghi" = 43 :: wd "abcdefghi" from by decide +kernel]
    refine symA_run (by decide +kernel) (fun z => ?_) (.inr ?_)
    · rw [show wd "abcdefghi" = 97 :: wd "bcdefghi" from by decide +kernel] at z
      simp at z
    · show 8 < runL (wd "abcdefghi" ++ Y)
      rw [ab Y hY]
      omega
  · have e : wd "abcdefghi" ++ Y = 97 :: (wd "bcdefghi" ++ Y) := by rw [show wd "abcdefghi" = 97 :: wd "bcdefghi" from by decide +kernel]; rfl
    have r := ab Y hY
    rw [e] at r ⊢
    exact symA_run (by decide +kernel) (fun z => by simp at z) (.inr (by rw [if_neg (by decide), List.drop_zero, r]; omega))
  · rw [show wd "A" = [65] from by decide +kernel]; exact one 65 (by decide +kernel) (by decide) (by decide)
  · rw [show wd "1" = [49] from by decide +kernel]; exact one 49 (by decide +kernel) (by decide) (by decide)
  · rw [show wd "=" = [61] from by decide +kernel]; exact one 61 (by decide +kernel) (by decide) (by decide)
  · rw [show wd "." = [46] from by decide +kernel]; exact one 46 (by decide +kernel) (by decide) (by decide)
/-- blanks where the law lays them -/
def OkL : List (Nat × List Nat) → Prop
  | [] => True
  | (_, s) :: r => LSy s ∧ (sg1 s = false → ∀ n u, r.head? = some (n, u) → n = 0 → sg1 u = true) ∧ OkL r
theorem bads_pos {s : List Nat} (h : s ∈ bads) : 0 < s.length ∧ s.head? ≠ some 32 ∧ sg1 s = false := by
  have key : ∀ s ∈ bads, 0 < s.length ∧ s.head? ≠ some 32 ∧ sg1 s = false := by decide +kernel
  exact key s h
theorem LSy.pos {s : List Nat} (h : LSy s) : ∃ c r, s = c :: r ∧ c ≠ 32 := by
  rcases h with h | h
  · obtain ⟨_, c, r, e, n⟩ := h.pos
    exact ⟨c, r, e, n⟩
  · obtain ⟨h1, h2, _⟩ := bads_pos h
    cases s with
    | nil => simp at h1
    | cons c r => exact ⟨c, r, rfl, fun z => h2 (by rw [z]; rfl)⟩
theorem okL_gap {s : List Nat} {n : Nat} {r : List (Nat × List Nat)} {e : Nat} (ok : OkL ((n, s) :: r)) (hs : sg1 s = false) : Gap (txtB r e) := by
  obtain ⟨_, adj, okr⟩ := ok
  cases r with
  | nil =>
    intro c hc
    show c = 32 ∨ _
    have hc : (List.replicate e 32).head? = some c := hc
    cases e with
    | zero => cases hc
    | succ e => cases hc; exact .inl rfl
  | cons x r =>
    obtain ⟨m, u⟩ := x
    intro c hc
    have hc : (List.replicate m 32 ++ (u ++ txtB r e)).head? = some c := hc
    cases m with
    | succ m => cases hc; exact .inl rfl
    | zero =>
      have hu := adj hs 0 u rfl rfl
      match u, hu with
      | [d], hu => cases hc; exact .inr hu
/-- the places of the law's symbols -/
def plS : Nat → List (Nat × List Nat) → List Sy
  | _, [] => []
  | at_, (n, s) :: r => (s, at_ + n) :: plS (at_ + n + s.length) r
/-- the law's own run -/
def wrongL (a0 : Bool) (sz : Nat) : Wt → List Op → List Sy → Option Nat
  | w, op, [] => if w = endW a0 ∧ op = [] then none else some sz
  | w, op, (s, p) :: r => if s ∈ bads then some p else match gone w op s with
    | none => some p
    | some st => wrongL a0 sz st.1 st.2 r
theorem vs_nobad {s : List Nat} (h : Vs s) : s ∉ bads := fun z => by
  have h1 := symA_bad (Y := []) z (fun c e => nomatch e)
  have h2 := symA_vsG (Y := []) h (fun _ c e => nomatch e)
  rw [h2] at h1
  have := h.pos.1
  rw [h1] at this
  exact absurd this (Nat.lt_irrefl _)
theorem run_wrong {a0 : Bool} {e : Nat} : ∀ (ps : List (Nat × List Nat)) (at_ f : Nat) (w : Wt) (op : List Op), OkL ps → (txtB ps e).length < f → runA a0 (at_ + (txtB ps e).length) w op (lexA f at_ (txtB ps e)) = wrongL a0 (at_ + (txtB ps e).length) w op (plS at_ ps)
  | [], at_, f, w, op, _, h => by
    have hl : lexA f at_ (txtB [] e) = [([], at_ + e)] := by
      have := lexA_txt (e := e) [] at_ f trivial h
      exact this
    rw [hl]
    have hlen : (txtB [] e).length = e := by show (List.replicate e 32).length = e; rw [List.length_replicate]
    rw [hlen]
    show (if ([] : List Nat) = [] then (if w = endW a0 ∧ op = [] ∧ ¬ at_ + e < at_ + e then none else some (at_ + e)) else _) = (if w = endW a0 ∧ op = [] then none else some (at_ + e))
    rw [if_pos rfl]
    by_cases c : w = endW a0 ∧ op = []
    · rw [if_pos c, if_pos ⟨c.1, c.2, Nat.lt_irrefl _⟩]
    · rw [if_neg c, if_neg (fun z => c ⟨z.1, z.2.1⟩)]
  | (n, s) :: r, at_, f, w, op, ok, h => by
    have h : (List.replicate n 32 ++ (s ++ txtB r e)).length < f := h
    have hlen : (txtB ((n, s) :: r) e).length = n + s.length + (txtB r e).length := by
      show (List.replicate n 32 ++ (s ++ txtB r e)).length = _
      simp only [List.length_append, List.length_replicate]
      omega
    rw [List.length_append, List.length_append, List.length_replicate] at h
    rw [hlen]
    show runA a0 _ w op (lexA f at_ (List.replicate n 32 ++ (s ++ txtB r e))) = (if s ∈ bads then some (at_ + n) else match gone w op s with
      | none => some (at_ + n)
      | some st => wrongL a0 _ st.1 st.2 (plS (at_ + n + s.length) r))
    rw [lexA_rep n at_ (by rw [List.length_append]; omega)]
    obtain ⟨c, s', es, hc⟩ := ok.1.pos
    cases f with
    | zero => exact absurd h (Nat.not_lt_zero _)
    | succ f =>
      have lx : lexA (f + 1) (at_ + n) (s ++ txtB r e) = if symA (s ++ txtB r e) = [] then [([], at_ + n)] else (symA (s ++ txtB r e), at_ + n) :: lexA f (at_ + n + (symA (s ++ txtB r e)).length) ((s ++ txtB r e).drop (symA (s ++ txtB r e)).length) := by
        rw [es, List.cons_append, lexA_s, if_neg hc]
      have hs0 : 0 < s.length := by rw [es, List.length_cons]; omega
      rw [lx]
      rcases ok.1 with hv | hb
      · have sy : symA (s ++ txtB r e) = s := symA_vsG hv fun z => okL_gap ok z
        have hne : s ≠ [] := fun z => by rw [z] at hs0; exact absurd hs0 (Nat.lt_irrefl _)
        rw [sy, if_neg hne, if_neg (vs_nobad hv), List.drop_left]
        show (if s = [] then _ else _) = _
        rw [if_neg hne]
        cases g : gone w op s with
        | none => rfl
        | some st =>
          have ih := run_wrong (a0 := a0) (e := e) r (at_ + n + s.length) f st.1 st.2 ok.2.2 (by omega)
          rw [show at_ + (n + s.length + (txtB r e).length) = at_ + n + s.length + (txtB r e).length from by omega]
          exact ih
      · have sy : symA (s ++ txtB r e) = [] := symA_bad hb (okL_gap ok (bads_pos hb).2.2)
        rw [sy, if_pos rfl, if_pos hb]
        show (if ([] : List Nat) = [] then (if w = endW a0 ∧ op = [] ∧ ¬ at_ + n < at_ + (n + s.length + (txtB r e).length) then none else some (at_ + n)) else _) = some (at_ + n)
        rw [if_pos rfl, if_neg (fun z => z.2.2 (by omega))]
/-- a laid text is refused where the law says -/
theorem readT_law {o : Nat} {a : Bool} {ps : List (Nat × List Nat)} {e : Nat} (ok : OkL ps) (h : readT o a (txtB ps e) ≠ none) : (∃ t l, readT o a (txtB ps e) = some (.ok t l) ∧ wrongL a (txtB ps e).length (wantW a) [] (plS 0 ps) = none) ∨ ∃ p, readT o a (txtB ps e) = some (.bad p) ∧ wrongL a (txtB ps e).length (wantW a) [] (plS 0 ps) = some p := by
  have r := run_wrong (a0 := a) (e := e) ps 0 ((txtB ps e).length + 1) (wantW a) [] ok (Nat.lt_succ_self _)
  rw [Nat.zero_add] at r
  have h2 := readT_run h
  rw [show lexT (txtB ps e) = lexA ((txtB ps e).length + 1) 0 (txtB ps e) from rfl, r] at h2
  exact h2
def sgns : List (List Nat) := [wd "(", wd ")", wd "[", wd "]", wd ",", wd "|", wd "&", wd "^", wd "~", wd ">>"]
/-- what a symbol is, as the law works it out -/
def sortP (s : List Nat) : Str :=
  let nm := if plusS s = true then s.drop 1 else s
  if nm ≠ [] ∧ nm.all isL = true then (if 8 < nm.length then Str.ofString "none" else if nm.length < s.length then Str.ofString "step" else Str.ofString "word") else if s ∈ sgns then tx s else Str.ofString "none"
def sortS (s : List Nat) : Str := if s ∈ bads then Str.ofString "none" else if plusS s = true then Str.ofString "step" else if nmB s = true then Str.ofString "word" else tx s
theorem sort_ok {s : List Nat} (h : LSy s) : sortP s = sortS s := by
  rcases h with h | h
  · have nb := vs_nobad h
    unfold sortS
    rw [if_neg nb]
    cases h with
    | @sgn c h =>
      obtain ⟨h1, h2, h3, h4, h5⟩ := sgnB_noL h
      have hp : plusS [c] = false := decide_eq_false fun z => by simp at z; omega
      have hs : [c] ∈ sgns := by
        have key : ∀ c ∈ (Str.ofString "()[],|&^~").cps.toList, [c] ∈ sgns := by decide +kernel
        exact key c (of_decide_eq_true h)
      have hn : nmB [c] = false := by
        unfold nmB
        rw [List.all_cons, h1, Bool.false_and, Bool.and_false]
      unfold sortP
      simp only [hp, Bool.false_eq_true, if_false, hn]
      rw [if_neg (fun z => by have := z.2; rw [List.all_cons, h1] at this; cases this), if_pos hs]
    | go => decide +kernel
    | word h1 h2 h3 =>
      have hp : plusS s = false := decide_eq_false fun z => by
        cases s with
        | nil => simp at h1
        | cons c r =>
          have := (isL_no (h3 c (.head _))).2.2.2
          simp at z
          exact this z
      have ha : s.all isL = true := List.all_eq_true.mpr h3
      have hn : nmB s = true := by unfold nmB; rw [ha, decide_eq_true ⟨h1, h2⟩]; rfl
      unfold sortP
      simp only [hp, Bool.false_eq_true, if_false]
      rw [if_pos ⟨fun z => by rw [z] at h1; simp at h1, ha⟩, if_neg (by omega), if_neg (Nat.lt_irrefl _), if_pos hn]
    | @step c r hc h1 h2 h3 =>
      have hp : plusS (c :: r) = true := decide_eq_true (by simpa using hc)
      have ha : r.all isL = true := List.all_eq_true.mpr h3
      unfold sortP
      simp only [hp, if_true, List.drop_one, List.tail_cons]
      rw [if_pos ⟨fun z => by rw [z] at h1; simp at h1, ha⟩, if_neg (by omega), if_pos (by simp)]
  · have key : ∀ s ∈ bads, sortP s = sortS s := by decide +kernel
    exact key s h
theorem abc_in (c : Nat) : decide (c ∈ (Str.ofString "abcdefghijklmnopqrstuvwxyz").cps.toList) = isL c := by
  have key : (Str.ofString "abcdefghijklmnopqrstuvwxyz").cps.toList = (List.range 26).map (97 + ·) := by decide +kernel
  rw [key]
  show _ = decide (97 ≤ c ∧ c ≤ 122)
  have : c ∈ (List.range 26).map (97 + ·) ↔ (97 ≤ c ∧ c ≤ 122) := by
    rw [List.mem_map]
    constructor
    · rintro ⟨i, hi, rfl⟩
      have := List.mem_range.mp hi
      omega
    · intro h
      exact ⟨c - 97, List.mem_range.mpr (by omega), by omega⟩
  by_cases h : 97 ≤ c ∧ c ≤ 122
  · rw [decide_eq_true h, decide_eq_true (this.mpr h)]
  · rw [decide_eq_false h, decide_eq_false (fun z => h (this.mp z))]
def spLSort : Sp := fun vs H Q _ => ∃ s : List Nat, vs = [.str (tx s)] ∧ LSy s ∧ s.length ≤ 1000 ∧ ∀ H', Same H H' → Q (.str (sortS s)) H'
abbrev s_lsort : Stmt := topS 48
abbrev n_lsort : List Str := ["_law_symbol", "_law_letters_so", "_law_name", "_law_sign"]
theorem sc_lsort : FnScope n_lsort ["_law_symbol"] (defScope s_lsort) := ⟨rfl, rfl, rfl, by decide +kernel, rfl, by decide +kernel, by decide +kernel⟩
theorem nm_lsort : nvB n_lsort (defScope s_lsort) 0 "_law_symbol" = true ∧ nvB n_lsort (defScope s_lsort) 2 "_law_name" = true ∧ lvB n_lsort (defScope s_lsort) 1 "_law_letters_so" = true ∧ lvB n_lsort (defScope s_lsort) 2 "_law_name" = true ∧ gvB (defScope s_lsort) "all" = true ∧ gvB (defScope s_lsort) "len" = true := by decide +kernel
theorem cl_lsort {Γ : Gm} (dfn : Dfn Γ "_law_sort" s_lsort ["_law_symbol"]) (T : Names Γ) : Cl Γ CX0 (1) "_law_sort" spLSort [] := by
  refine dfn.cl sc_lsort (fun vs H Q E h => ?_) (fun f cdv A outer s H vs Q E hg h => ?_)
  · obtain ⟨s, rfl, _⟩ := h
    rfl
  obtain ⟨s, rfl, hs, hl, q⟩ := h
  have nd := sc_lsort.nd
  obtain ⟨v0, v2, l1, l2, g_all, g_len⟩ := nm_lsort
  refine ⟨_, (C8.pss_cut (pst (i := 1) nd l1 pe_str)
    (C8.pss_cut (pst (i := 2) nd l2 (pe_ifB (pt_cm (WO.ok hg) (pe_slice (WL.ok hg) (ps 0 v0) po_none (po_pt pe_int)) (pe_lst (pa_cons pe_str (pa_cons pe_str pa_nil))) (by with_unfolding_all rfl)) (pe_slice (WL.ok hg) (ps 0 v0) (po_pt pe_int) po_none) (ps 0 v0)))
    (pss_cons (ps_ifB (PW.pt (pw_andB (pt_cm (k_ne hg) (ps 2 v2) pe_str (nomark _)) (pw_and1 (pt_tr hg (pcb (WC.ok hg) g_all T.n_all bt_all (pa_cons (pe_lc (own := [("_law_sign", 3)]) rfl nd (pi_str (ps 2 v2)) (blkOk_by (N := n_lsort) (sc := defScope s_lsort) (by decide +kernel)) (fun _ _ _ _ _ => (pg_name (i := 3) nd rfl (by first | exact .inl rfl | exact .inr rfl))) (fun _ _ _ _ _ => pts_nil) (fun _ _ _ _ _ => (pe_cmpR (WO.ok hg.blk) (psr 3) (psr 1) (by with_unfolding_all rfl)))) pa_nil))))))
    (pss_cons (ps_ifB (pt_cm (k_gt hg) (pcb (k_len hg) g_len T.n_len bt_len (pa_cons (ps 2 v2) pa_nil)) pe_int (nomark _))
    (pss_one (ps_ret pe_str))
    pss_nil)
    (pss_one (ps_ret (pe_ifB (pt_cm (k_lt hg) (pcb (k_len hg) g_len T.n_len bt_len (pa_cons (ps 2 v2) pa_nil)) (pcb (k_len hg) g_len T.n_len bt_len (pa_cons (ps 0 v0) pa_nil)) (nomark _)) pe_str pe_str))))
    pss_nil)
    (pss_one (ps_ret (pe_ifB (pt_cm (WO.ok hg) (ps 0 v0) (pe_lst (pa_cons pe_str (pa_cons pe_str (pa_cons pe_str (pa_cons pe_str (pa_cons pe_str (pa_cons pe_str (pa_cons pe_str (pa_cons pe_str (pa_cons pe_str (pa_cons pe_str pa_nil))))))))))) (by with_unfolding_all rfl)) (ps 0 v0) pe_str)))))), ?_⟩
  refine st_start (σ := [some _, none, none, none]) rfl ?_
  walk_at "dn"
  have hsz : (tx s).length ≤ sizeLine := by rw [tx_len]; exact szl (by omega)
  refine ⟨fun σ' H' => σ' = [some (.str (tx s)), some (.str (Str.ofString "abcdefghijklmnopqrstuvwxyz")), none, none] ∧ Same H H', ⟨rfl, Same.refl _⟩, ?_⟩
  rintro σ' H1 ⟨rfl, s1⟩
  walk_at "dn"
  generalize hnm : (if plusS s = true then s.drop 1 else s) = nm
  have hnl : nm.length ≤ s.length := by rw [← hnm]; split <;> simp
  refine ⟨fun σ' H' => σ' = [some (.str (tx s)), some (.str (Str.ofString "abcdefghijklmnopqrstuvwxyz")), some (.str (tx nm)), none] ∧ Same H H', ?_, ?_⟩
  · rw [show (1 : Int) = ((1 : Nat) : Int) from rfl]
    refine wl_s hsz ?_
    rw [cut_tx0]
    refine ⟨szl (by simp only [List.length_cons, List.length_nil]; omega), fun p hp => ?_⟩
    have s2 := Same.mk (o := .lst [V.str (Str.ofString "+"), V.str (Str.ofString "-")]) hp
    refine wo_inS (xs := [Str.ofString "+", Str.ofString "-"]) (.inl (SqL.of upd_same)) ?_
    have e : decide (tx (s.take 1) ∈ [Str.ofString "+", Str.ofString "-"]) = plusS s := by
      have e1 : Str.ofString "+" = tx [43] := by decide +kernel
      have e2 : Str.ofString "-" = tx [45] := by decide +kernel
      rw [e1, e2]
      unfold plusS
      have : tx (s.take 1) ∈ [tx [43], tx [45]] ↔ (s.head? = some 43 ∨ s.head? = some 45) := by
        simp only [List.mem_cons, List.not_mem_nil, or_false]
        cases s with
        | nil => simp [show ∀ c, ¬ tx [] = tx [c] from fun c z => by have := tx_inj z; cases this]
        | cons c r =>
          show tx [c] = tx [43] ∨ tx [c] = tx [45] ↔ _
          constructor
          · rintro (z | z)
            · left; have := tx_inj z; simp at this; simp [this]
            · right; have := tx_inj z; simp at this; simp [this]
          · rintro (z | z) <;> (simp at z; subst z; simp)
      by_cases c : s.head? = some 43 ∨ s.head? = some 45
      · rw [decide_eq_true c, decide_eq_true (this.mpr c)]
      · rw [decide_eq_false c, decide_eq_false (fun z => c (this.mp z))]
    walk_at "di"
    rw [e]
    refine br_b (fun hp => ?_) fun hp => ?_
    · rw [if_pos hp] at hnm
      refine wl_s hsz ?_
      rw [cut_tx1, hnm]
      exact ⟨rfl, s1.trans s2⟩
    · rw [if_neg (by rw [hp]; decide)] at hnm
      rw [← hnm]
      exact ⟨rfl, s1.trans s2⟩
  rintro σ' H2 ⟨rfl, s2⟩
  walk_at "dn"
  have hq := sort_ok hs
  unfold sortP at hq
  simp only [hnm] at hq
  have tail : ∀ H3, Same H H3 → ¬ (nm ≠ [] ∧ nm.all isL = true) → ∀ p, H3 p = none → WO (Γ.at 0) (compareOp .In) (.str (tx s)) (.ref p) (upd H3 p (.lst ([Str.ofString "(", Str.ofString ")", Str.ofString "[", Str.ofString "]", Str.ofString ",", Str.ofString "|", Str.ofString "&", Str.ofString "^", Str.ofString "~", Str.ofString ">>"].map V.str))) fun x H' => asB x fun k => br k (Q (.str (tx s)) H') (Q (.str (Str.ofString "none")) H') := fun H3 s3 hno p hp => by
    have s4 := Same.mk (o := .lst ([Str.ofString "(", Str.ofString ")", Str.ofString "[", Str.ofString "]", Str.ofString ",", Str.ofString "|", Str.ofString "&", Str.ofString "^", Str.ofString "~", Str.ofString ">>"].map V.str)) hp
    refine wo_inS (.inl (SqL.of upd_same)) ?_
    walk_at "di"
    have em : [Str.ofString "(", Str.ofString ")", Str.ofString "[", Str.ofString "]", Str.ofString ",", Str.ofString "|", Str.ofString "&", Str.ofString "^", Str.ofString "~", Str.ofString ">>"] = sgns.map tx := by decide +kernel
    rw [em]
    have hm : tx s ∈ sgns.map tx ↔ s ∈ sgns := ⟨fun z => by
      obtain ⟨u, hu, e⟩ := List.mem_map.mp z
      rw [← tx_inj e]; exact hu, fun z => List.mem_map.mpr ⟨s, z, rfl⟩⟩
    rw [if_neg hno] at hq
    refine br_d (fun c => ?_) fun c => ?_
    · rw [if_pos (hm.mp c)] at hq
      rw [hq]
      exact q _ (s3.trans s4)
    · rw [if_neg (fun z => c (hm.mpr z))] at hq
      rw [hq]
      exact q _ (s3.trans s4)
  have e0 : Str.ofString "" = tx [] := by decide +kernel
  rw [e0]
  have ez : (!decide (tx nm = tx [])) = decide (nm ≠ []) := by
    by_cases c : nm = []
    · rw [c, decide_eq_true rfl, decide_eq_false (fun z => z rfl)]; rfl
    · rw [decide_eq_false (fun z => c (tx_inj z)), decide_eq_true c]; rfl
  rw [ez]
  refine br_d (fun hne => ?_) fun hne => ?_
  · refine ⟨tx nm, rfl, fun D hD => ?_⟩
    have sD := Same.mk (o := .lst []) hD
    have hsz2 : (tx nm).cps.size = nm.length := by have := tx_len nm; exact this
    refine lq_it walk_str (fun j acc H' => acc = (nm.take j).map (fun c => V.bl (isL c)) ∧ Same H H' ∧ H' D = some (.lst acc)) ⟨rfl, s2.trans sD, upd_same⟩ (fun _ _ _ _ _ => trivial) ?_ ?_
    · rintro j x acc H3 H4 hj hl2 ⟨rfl, s3, hD3⟩ ⟨rfl, c, hc, rfl⟩
      have hc : nm[j]? = some c := by
        unfold tx at hc
        simpa using hc
      simp only [wipe, List.map_cons, List.map_nil, List.foldl_cons, List.foldl_nil, List.set_cons_succ, List.set_cons_zero]
      walk_at "dn"
      refine ⟨rfl, wo_in1 ?_⟩
      rw [abc_in]
      refine ⟨_, hD3, lt_size (by rw [List.length_map, List.length_take]; omega), _, ?_, ?_, ?_, upd_same⟩
      · rw [List.length_append, List.length_map, List.length_take, List.length_singleton]; omega
      · rw [List.take_succ, hc, List.map_append]
        rfl
      · intro x o e
        have hx : x ≠ D := fun z => by
          have := s2 x o e
          rw [z, hD] at this; cases this
        rw [upd_ne hx]
        exact s3 x o e
    · rintro acc H3 hl2 ⟨rfl, s3, hD3⟩
      rw [hsz2, List.take_length] at hD3
      refine wc_all (bs := nm.map isL) (SqL.of (by rw [List.map_map]; exact hD3)) ?_
      have ea : (nm.map isL).all id = nm.all isL := by rw [List.all_map]; rfl
      walk_at "di"
      rw [ea]
      have hsz3 : (tx nm).length ≤ sizeLine := by rw [tx_len]; exact szl (by omega)
      refine br_b (fun hA => ?_) fun hA => ?_
      · rw [if_pos ⟨hne, hA⟩] at hq
        rw [tx_len, tx_len]
        rw [tx_len] at hsz3 hsz
        refine ⟨hsz3, br_d (fun h8 => ?_) fun h8 => ⟨hsz3, hsz, br_d (fun h9 => ?_) fun h9 => ?_⟩⟩
        · rw [if_pos (by omega)] at hq
          rw [hq]; exact q _ s3
        · rw [if_neg (by omega), if_pos (by omega)] at hq
          rw [hq]; exact q _ s3
        · rw [if_neg (by omega), if_neg (by omega)] at hq
          rw [hq]; exact q _ s3
      · exact ⟨szl (by simp only [List.length_cons, List.length_nil]; omega), fun p hp => tail _ s3 (fun z => by rw [hA] at z; cases z.2) p hp⟩
  · walk_at "di"
    exact ⟨szl (by simp only [List.length_cons, List.length_nil]; omega), fun p hp => tail _ s2 (fun z => hne z.1) p hp⟩
def Wt.str : Wt → Str
  | .look => Str.ofString "look"
  | .test => Str.ofString "test"
  | .elook => Str.ofString "end look"
  | .easks => Str.ofString "end asks"
  | .brk => Str.ofString "bracket"
  | .name => Str.ofString "name"
  | .ename => Str.ofString "end name"
def Op.str : Op → Str
  | .sq => Str.ofString "]"
  | .look => Str.ofString "look"
  | .test => Str.ofString "test"
  | .marked => Str.ofString "marked"
  | .found => Str.ofString "found"
  | .same => Str.ofString "same"
/-- what is open, as the law keeps it: the last one at the end -/
def stk (op : List Op) : List V := op.reverse.map fun o => V.str o.str
theorem stk_cons (o : Op) (op : List Op) : stk (o :: op) = stk op ++ [V.str o.str] := by unfold stk; rw [List.reverse_cons, List.map_append]; rfl
theorem stk_len (op : List Op) : (stk op).length = op.length := by unfold stk; rw [List.length_map, List.length_reverse]
theorem txw {s : List Nat} {x : String} : tx s = Str.ofString x ↔ s = wd x := ⟨fun h => by
  have := tx_of (Str.ofString x)
  rw [← h] at this
  have h2 : tx s = tx (wd x) := by rw [h]; exact (tx_of _).symm
  exact tx_inj h2, fun h => by rw [h]; exact tx_of _⟩
theorem plus_nm {s : List Nat} (h : plusS s = true) : nmB s = false := by
  have h : s.head? = some 43 ∨ s.head? = some 45 := of_decide_eq_true h
  cases s with
  | nil => simp at h
  | cons c r =>
    have hc : isL c = false := decide_eq_false fun z => by simp at h; omega
    unfold nmB
    rw [List.all_cons, hc, Bool.false_and, Bool.and_false]
theorem sort_step {s : List Nat} (h : s ∉ bads) : sortS s = Str.ofString "step" ↔ plusS s = true := by
  unfold sortS
  rw [if_neg h]
  cases hp : plusS s with
  | true => simp
  | false =>
    rw [if_neg (by decide)]
    cases hn : nmB s with
    | true => rw [if_pos rfl]; exact ⟨fun z => absurd z (by decide +kernel), fun z => nomatch z⟩
    | false =>
      rw [if_neg (by decide)]
      refine ⟨fun z => ?_, fun z => nomatch z⟩
      rw [txw.mp z] at hn
      exact absurd hn (by decide +kernel)
theorem sort_word {s : List Nat} (h : s ∉ bads) : sortS s = Str.ofString "word" ↔ nmB s = true := by
  unfold sortS
  rw [if_neg h]
  cases hp : plusS s with
  | true => rw [if_pos rfl, plus_nm hp]; exact ⟨fun z => absurd z (by decide +kernel), fun z => nomatch z⟩
  | false =>
    rw [if_neg (by decide)]
    cases hn : nmB s with
    | true => simp
    | false =>
      rw [if_neg (by decide)]
      refine ⟨fun z => ?_, fun z => nomatch z⟩
      rw [txw.mp z] at hn
      exact absurd hn (by decide +kernel)
theorem sort_none (s : List Nat) : sortS s = Str.ofString "none" ↔ s ∈ bads := by
  unfold sortS
  by_cases h : s ∈ bads
  · rw [if_pos h]; exact ⟨fun _ => h, fun _ => rfl⟩
  rw [if_neg h]
  refine ⟨fun z => ?_, fun z => absurd z h⟩
  exfalso
  cases hp : plusS s with
  | true => rw [hp, if_pos rfl] at z; exact absurd z (by decide +kernel)
  | false =>
    rw [hp, if_neg (by decide)] at z
    cases hn : nmB s with
    | true => rw [hn, if_pos rfl] at z; exact absurd z (by decide +kernel)
    | false =>
      rw [hn, if_neg (by decide)] at z
      rw [txw.mp z] at hn
      exact absurd hn (by decide +kernel)
/-- what a step of the law's run gives -/
def GoneR (K : PySem.W.Frag) (H : Hp) (Q : VK) (r : Option (Wt × List Op)) : Prop := match r with
  | none => ∀ H', Same H H' → Q .non H'
  | some (w, op) => ∀ p po H', Same H H' → SqT K H' p [.str w.str, .ref po] → H' po = some (.lst (stk op)) → Q (.ref p) H'
theorem gone_fin {K : PySem.W.Frag} {H H1 : Hp} {Q : VK} {w : Wt} {op : List Op} {po : Addr} (h : GoneR K H Q (some (w, op))) (s : Same H H1) (e : H1 po = some (.lst (stk op))) : [V.str w.str, V.ref po].length ≤ sizeLine ∧ ∀ p, H1 p = none → Q (.ref p) (upd H1 p (.tup [.str w.str, .ref po])) :=
  ⟨szl (by simp only [List.length_cons, List.length_nil]; omega), fun p hp => h p po _ (s.trans (Same.mk hp)) (SqT.of upd_same) (Same.mk hp _ _ e)⟩
theorem push_fin {Γ : Gm} {H H1 : Hp} {Q : VK} {w : Wt} {o : Op} {op : List Op} {po : Addr} (h : GoneR Γ.K H Q (some (w, o :: op))) (s : Same H H1) (e : H1 po = some (.lst (stk op))) (hl : op.length ≤ 5000) : [V.str o.str].length ≤ sizeLine ∧ ∀ p, H1 p = none → oAdd Γ (.ref po) (.ref p) (upd H1 p (.lst [.str o.str])) fun x H2 => [V.str w.str, x].length ≤ sizeLine ∧ ∀ p, H2 p = none → Q (.ref p) (upd H2 p (.tup [.str w.str, x])) :=
  ⟨szl (by simp only [List.length_cons, List.length_nil]; omega), fun p hp => wo_cat (Same.mk hp _ _ e) upd_same (szl (by rw [stk_len]; simp only [List.length_cons, List.length_nil]; omega)) fun p2 hp2 => gone_fin h ((s.trans (Same.mk hp)).trans (Same.mk hp2)) (by rw [upd_same, stk_cons])⟩
def spGone (K : PySem.W.Frag) (ws : List Wt) (g : Wt → List Op → List Nat → Option (Wt × List Op)) : Sp := fun vs H Q _ => ∃ (w : Wt) (op : List Op) (s : List Nat) (po : Addr), vs = [.str w.str, .ref po, .str (tx s)] ∧ w ∈ ws ∧ H po = some (.lst (stk op)) ∧ op.length ≤ 5000 ∧ LSy s ∧ s ∉ bads ∧ s.length ≤ 1000 ∧ GoneR K H Q (g w op s)
abbrev s_lopened : Stmt := topS 49
abbrev n_lopened : List Str := ["_law_want", "_law_open_so", "_law_symbol", "_law_kind"]
theorem sc_lopened : FnScope n_lopened ["_law_want", "_law_open_so", "_law_symbol"] (defScope s_lopened) := ⟨rfl, rfl, rfl, by decide +kernel, rfl, by decide +kernel, by decide +kernel⟩
theorem nm_lopened : nvB n_lopened (defScope s_lopened) 0 "_law_want" = true ∧ nvB n_lopened (defScope s_lopened) 1 "_law_open_so" = true ∧ nvB n_lopened (defScope s_lopened) 2 "_law_symbol" = true ∧ nvB n_lopened (defScope s_lopened) 3 "_law_kind" = true ∧ lvB n_lopened (defScope s_lopened) 3 "_law_kind" = true ∧ gvB (defScope s_lopened) "_law_sort" = true := by decide +kernel
theorem cl_lopened {Γ : Gm} (dfn : Dfn Γ "_law_opened" s_lopened ["_law_want", "_law_open_so", "_law_symbol"]) (T : Names Γ) (c_law_sort : Cl Γ CX0 1 "_law_sort" spLSort []) : Cl Γ CX0 (2) "_law_opened" (spGone Γ.K [.look, .test] gone) [] := by
  refine dfn.cl sc_lopened (fun vs H Q E h => ?_) (fun f cdv A outer s H vs Q E hg h => ?_)
  · obtain ⟨w, op, s, po, rfl, _⟩ := h
    rfl
  obtain ⟨w, op, s, po, rfl, hw, hpo, hop, hs, hb, hl, hr⟩ := h
  have nd := sc_lopened.nd
  obtain ⟨v0, v1, v2, v3, l3, g__law_sort⟩ := nm_lopened
  refine ⟨_, (pss_cons (pst (i := 3) nd l3 (pcl c_law_sort hg (by omega) g__law_sort pass0 (pa_cons (ps 2 v2) pa_nil)))
    (pss_cons (ps_ifB (pt_cm (k_eq hg) (ps 0 v0) pe_str (nomark _))
    (pss_cons (ps_ifB (PW.pt (pw_orB (pt_cm (k_eq hg) (ps 2 v2) pe_str (nomark _)) (pw_or1 (pt_cm (k_eq hg) (ps 3 v3) pe_str (nomark _)))))
    (pss_one (ps_ret (pe_tup (pa_cons pe_str (pa_cons (ps 1 v1) pa_nil)))))
    pss_nil)
    (pss_cons (ps_ifB (pt_cm (k_eq hg) (ps 2 v2) pe_str (nomark _))
    (pss_one (ps_ret (pe_tup (pa_cons pe_str (pa_cons (pe_op (k_add hg) (ps 1 v1) (pe_lst (pa_cons pe_str pa_nil))) pa_nil)))))
    pss_nil)
    (pss_one (ps_ret (pe_ifB (pt_cm (k_eq hg) (ps 2 v2) pe_str (nomark _)) (pe_tup (pa_cons pe_str (pa_cons (pe_op (k_add hg) (ps 1 v1) (pe_lst (pa_cons pe_str pa_nil))) pa_nil))) pe_non)))))
    pss_nil)
    (pss_cons (ps_ifB (pt_cm (k_eq hg) (ps 2 v2) pe_str (nomark _))
    (pss_one (ps_ret (pe_tup (pa_cons pe_str (pa_cons (ps 1 v1) pa_nil)))))
    pss_nil)
    (pss_cons (ps_ifB (pt_cm (k_eq hg) (ps 2 v2) pe_str (nomark _))
    (pss_one (ps_ret (pe_tup (pa_cons pe_str (pa_cons (ps 1 v1) pa_nil)))))
    pss_nil)
    (pss_cons (ps_ifB (pt_cm (k_eq hg) (ps 2 v2) pe_str (nomark _))
    (pss_one (ps_ret (pe_tup (pa_cons pe_str (pa_cons (pe_op (k_add hg) (ps 1 v1) (pe_lst (pa_cons pe_str pa_nil))) pa_nil)))))
    pss_nil)
    (pss_one (ps_ret (pe_ifB (pt_cm (WO.ok hg) (ps 2 v2) (pe_lst (pa_cons pe_str (pa_cons pe_str (pa_cons pe_str pa_nil)))) (by with_unfolding_all rfl)) (pe_tup (pa_cons pe_str (pa_cons (pe_op (k_add hg) (ps 1 v1) (pe_lst (pa_cons (ps 2 v2) pa_nil))) pa_nil))) pe_non)))))))), ?_⟩
  refine st_start (σ := [some _, some _, some _, none]) rfl ?_
  walk_at "dn"
  refine ⟨s, rfl, hs, hl, fun H1 s1 => ?_⟩
  have hpo1 := s1 _ _ hpo
  walk_at "di"
  have hn : ∀ x : String, ¬ tx s = Str.ofString x → s ≠ wd x := fun x h z => h (txw.mpr z)
  simp only [List.mem_cons, List.not_mem_nil, or_false] at hw
  rcases hw with rfl | rfl
  · refine br_t rfl ?_
    rw [gone] at hr
    refine br_d (fun h1 => ?_) fun h1 => ?_
    · rw [if_pos (.inl (txw.mp h1))] at hr
      exact gone_fin hr s1 hpo1
    refine br_d (fun h2 => ?_) fun h2 => ?_
    · rw [if_pos (.inr ((sort_step hb).mp h2))] at hr
      exact gone_fin hr s1 hpo1
    rw [if_neg (fun z => z.elim (hn _ h1) fun z => h2 ((sort_step hb).mpr z))] at hr
    refine br_d (fun h3 => ?_) fun h3 => ?_
    · rw [if_pos (txw.mp h3)] at hr
      exact push_fin (Γ := Γ.at 1) hr s1 hpo1 hop
    rw [if_neg (hn _ h3)] at hr
    refine br_d (fun h4 => ?_) fun h4 => ?_
    · rw [if_pos (txw.mp h4)] at hr
      exact push_fin (Γ := Γ.at 1) hr s1 hpo1 hop
    rw [if_neg (hn _ h4)] at hr
    exact hr H1 s1
  · refine br_f (by decide +kernel) ?_
    rw [gone] at hr
    refine br_d (fun h1 => ?_) fun h1 => ?_
    · rw [if_pos (txw.mp h1)] at hr
      exact gone_fin hr s1 hpo1
    rw [if_neg (hn _ h1)] at hr
    refine br_d (fun h2 => ?_) fun h2 => ?_
    · rw [if_pos (txw.mp h2)] at hr
      exact gone_fin hr s1 hpo1
    rw [if_neg (hn _ h2)] at hr
    refine br_d (fun h3 => ?_) fun h3 => ?_
    · rw [if_pos (txw.mp h3)] at hr
      exact push_fin (Γ := Γ.at 1) hr s1 hpo1 hop
    rw [if_neg (hn _ h3)] at hr
    refine ⟨szl (by simp only [List.length_cons, List.length_nil]; omega), fun p hp => ?_⟩
    refine wo_inS (xs := [Str.ofString "marked", Str.ofString "found", Str.ofString "same"]) (.inl (SqL.of upd_same)) ?_
    walk_at "di"
    have s2 := s1.trans (Same.mk (o := .lst [V.str (Str.ofString "marked"), V.str (Str.ofString "found"), V.str (Str.ofString "same")]) hp)
    have hpo2 := s2 _ _ hpo
    refine br_d (fun h4 => ?_) fun h4 => ?_
    · simp only [List.mem_cons, List.not_mem_nil, or_false] at h4
      rcases h4 with h4 | h4 | h4
      · rw [if_pos (txw.mp h4)] at hr
        rw [h4]
        exact push_fin (Γ := Γ.at 1) hr s2 hpo2 hop
      · have e := txw.mp h4
        rw [if_neg (by rw [e]; decide +kernel), if_pos e] at hr
        rw [h4]
        exact push_fin (Γ := Γ.at 1) hr s2 hpo2 hop
      · have e := txw.mp h4
        rw [if_neg (by rw [e]; decide +kernel), if_neg (by rw [e]; decide +kernel), if_pos e] at hr
        rw [h4]
        exact push_fin (Γ := Γ.at 1) hr s2 hpo2 hop
    · simp only [List.mem_cons, List.not_mem_nil, or_false, not_or] at h4
      rw [if_neg (hn _ h4.1), if_neg (hn _ h4.2.1), if_neg (hn _ h4.2.2)] at hr
      exact hr _ s2
/-- the last one that is open -/
def lastV (op : List Op) : List V := match op with
  | [] => []
  | o :: _ => [.str o.str]
theorem cut_last (op : List Op) : cutV (stk op) (some (-1)) none = lastV op := by
  cases op with
  | nil => decide +kernel
  | cons o op =>
    rw [stk_cons]
    unfold cutV
    rw [HT.sIx_none]
    have e : HT.sIx (stk op ++ [V.str o.str]).length 0 (some (-1)) = (stk op).length := by
      unfold HT.sIx
      simp only [show (-1 : Int) < 0 from by decide, if_true]
      rw [List.length_append, List.length_singleton]
      omega
    rw [e, List.drop_left]
    simp [lastV]
theorem cut_init (op : List Op) : cutV (stk op) none (some (-1)) = stk op.tail := by
  cases op with
  | nil => decide +kernel
  | cons o op =>
    rw [stk_cons]
    unfold cutV
    rw [HT.sIx_none]
    have e : HT.sIx (stk op ++ [V.str o.str]).length (stk op ++ [V.str o.str]).length (some (-1)) = (stk op).length := by
      unfold HT.sIx
      simp only [show (-1 : Int) < 0 from by decide, if_true]
      rw [List.length_append, List.length_singleton]
      omega
    rw [e]
    simp
theorem lst1_shaped (o : Op) : SeqAt.shaped (.list [.str o.str]) = true := by cases o <;> decide +kernel
theorem wo_last {Γ : Gm} {H : Hp} {Q : VK} {op : List Op} {pl pb : Addr} {x : Str} (o : Op) (hx : x = o.str) (hl : SqL Γ.K H pl (lastV op)) (hb : SqL Γ.K H pb [.str x]) (q : Q (.bl (decide (op.head? = some o))) H) : WO Γ (compareOp .Eq) (.ref pl) (.ref pb) H Q := by
  subst hx
  cases op with
  | nil =>
    refine wo_eqD (d := .list []) (e := .list [.str o.str]) (.lst hl .nil) (.lst hb (.cons (.str _) .nil)) rfl (lst1_shaped o) ?_
    exact q
  | cons u op =>
    refine wo_eqD (d := .list [.str u.str]) (e := .list [.str o.str]) (.lst hl (.cons (.str _) .nil)) (.lst hb (.cons (.str _) .nil)) (lst1_shaped u) (lst1_shaped o) ?_
    have e : PyData.eqv (.list [.str u.str]) (.list [.str o.str]) = decide ((u :: op).head? = some o) := by
      rw [show decide ((u :: op).head? = some o) = decide (u = o) from by simp]
      cases u <;> cases o <;> decide +kernel
    rw [e]
    exact q
abbrev s_lclosed : Stmt := topS 50
abbrev n_lclosed : List Str := ["_law_want", "_law_open_so", "_law_symbol", "_law_last", "_law_rest"]
theorem sc_lclosed : FnScope n_lclosed ["_law_want", "_law_open_so", "_law_symbol"] (defScope s_lclosed) := ⟨rfl, rfl, rfl, by decide +kernel, rfl, by decide +kernel, by decide +kernel⟩
theorem nm_lclosed : nvB n_lclosed (defScope s_lclosed) 0 "_law_want" = true ∧ nvB n_lclosed (defScope s_lclosed) 1 "_law_open_so" = true ∧ nvB n_lclosed (defScope s_lclosed) 2 "_law_symbol" = true ∧ nvB n_lclosed (defScope s_lclosed) 3 "_law_last" = true ∧ nvB n_lclosed (defScope s_lclosed) 4 "_law_rest" = true := by decide +kernel
theorem cl_lclosed {Γ : Gm} (dfn : Dfn Γ "_law_closed" s_lclosed ["_law_want", "_law_open_so", "_law_symbol"]) (T : Names Γ) : Cl Γ CX0 (2) "_law_closed" (spGone Γ.K [.elook, .easks, .ename] gone) [] := by
  refine dfn.cl sc_lclosed (fun vs H Q E h => ?_) (fun f cdv A outer s H vs Q E hg h => ?_)
  · obtain ⟨w, op, s, po, rfl, _⟩ := h
    rfl
  obtain ⟨w, op, s, po, rfl, hw, hpo, hop, hs, hb, hl, hr⟩ := h
  have nd := sc_lclosed.nd
  obtain ⟨v0, v1, v2, v3, v4⟩ := nm_lclosed
  refine ⟨_, (pss_cons (ps_p2 (i := 3) (j := 4) rfl nd rfl rfl (by decide) rfl rfl (pa_cons (pe_slice (WL.ok hg) (ps 1 v1) (po_pt (pe_un (k_neg hg) pe_int)) po_none) (pa_cons (pe_slice (WL.ok hg) (ps 1 v1) po_none (po_pt (pe_un (k_neg hg) pe_int))) pa_nil)) (by rfl))
    (pss_cons (ps_ifB (pt_cm (k_eq hg) (ps 0 v0) pe_str (nomark _))
    (C8.pss_cut (ps_ifB (pt_cm (WO.ok hg) (ps 2 v2) (pe_lst (pa_cons pe_str (pa_cons pe_str (pa_cons pe_str pa_nil)))) (by with_unfolding_all rfl))
    (pss_one (ps_ret (pe_tup (pa_cons pe_str (pa_cons (ps 1 v1) pa_nil)))))
    pss_nil)
    (C8.pss_cut (ps_ifB (PW.pt (pw_andB (pt_cm (k_eq hg) (ps 2 v2) pe_str (nomark _)) (pw_and1 (pt_cm (k_eq hg) (ps 3 v3) (pe_lst (pa_cons pe_str pa_nil)) (nomark _)))))
    (pss_one (ps_ret (pe_tup (pa_cons pe_str (pa_cons (ps 4 v4) pa_nil)))))
    pss_nil)
    (C8.pss_cut (ps_ifB (PW.pt (pw_andB (pt_cm (k_eq hg) (ps 2 v2) pe_str (nomark _)) (pw_and1 (pt_cm (k_eq hg) (ps 3 v3) (pe_lst (pa_cons pe_str pa_nil)) (nomark _)))))
    (pss_one (ps_ret (pe_tup (pa_cons pe_str (pa_cons (pe_op (k_add hg) (ps 4 v4) (pe_lst (pa_cons pe_str pa_nil))) pa_nil)))))
    pss_nil)
    (pss_one (ps_ret (pe_ifB (PW.pt (pw_andB (pt_cm (k_eq hg) (ps 2 v2) pe_str (nomark _)) (pw_and1 (pt_cm (k_eq hg) (ps 3 v3) (pe_lst (pa_cons pe_str pa_nil)) (nomark _))))) (pe_tup (pa_cons pe_str (pa_cons (ps 4 v4) pa_nil))) pe_non))))))
    pss_nil)
    (pss_cons (ps_ifB (pt_cm (k_eq hg) (ps 0 v0) pe_str (nomark _))
    (pss_one (ps_ret (pe_ifB (pt_cm (k_eq hg) (ps 2 v2) pe_str (nomark _)) (pe_tup (pa_cons pe_str (pa_cons (ps 4 v4) pa_nil))) pe_non)))
    pss_nil)
    (C8.pss_cut (ps_ifB (pt_cm (WO.ok hg) (ps 2 v2) (pe_lst (pa_cons pe_str (pa_cons pe_str (pa_cons pe_str pa_nil)))) (by with_unfolding_all rfl))
    (pss_one (ps_ret (pe_tup (pa_cons pe_str (pa_cons (ps 1 v1) pa_nil)))))
    pss_nil)
    (C8.pss_cut (ps_ifB (PW.pt (pw_andB (pt_cm (k_eq hg) (ps 2 v2) pe_str (nomark _)) (pw_and1 (pt_cm (k_eq hg) (ps 3 v3) (pe_lst (pa_cons pe_str pa_nil)) (nomark _)))))
    (pss_one (ps_ret (pe_tup (pa_cons pe_str (pa_cons (ps 4 v4) pa_nil)))))
    pss_nil)
    (pss_one (ps_ret (pe_ifB (PW.pt (pw_andB (pt_cm (k_eq hg) (ps 2 v2) pe_str (nomark _)) (pw_and1 (pt_cm (k_eq hg) (ps 3 v3) (pe_lst (pa_cons pe_str pa_nil)) (nomark _))))) (pe_tup (pa_cons pe_str (pa_cons (ps 4 v4) pa_nil))) pe_non)))))))), ?_⟩
  refine st_start (σ := [some _, some _, some _, none, none]) rfl ?_
  walk_at "dn"
  have hn : ∀ x : String, ¬ tx s = Str.ofString x → s ≠ wd x := fun x h z => h (txw.mpr z)
  refine wl_l (SqL.of hpo) fun pl hpl => ?_
  rw [cut_last]
  refine wl_l (SqL.of (Same.mk hpl _ _ hpo)) fun pr hpr => ?_
  rw [cut_init]
  have s2 : Same H (upd (upd H pl (.lst (lastV op))) pr (.lst (stk op.tail))) := (Same.mk hpl).trans (Same.mk hpr)
  have hl2 : (upd (upd H pl (.lst (lastV op))) pr (.lst (stk op.tail))) pl = some (.lst (lastV op)) := Same.mk hpr _ _ upd_same
  have hr2 : (upd (upd H pl (.lst (lastV op))) pr (.lst (stk op.tail))) pr = some (.lst (stk op.tail)) := upd_same
  generalize upd (upd H pl (.lst (lastV op))) pr (.lst (stk op.tail)) = H2 at s2 hl2 hr2
  simp only [List.mem_cons, List.not_mem_nil, or_false] at hw
  /- a symbol, with the right one open -/
  have st : ∀ (X : Str) (o : Op) (A : Hp → Prop) (H3 : Hp), X = o.str → Same H2 H3 → (∀ H4, Same H2 H4 → op.head? = some o → A H4) → ∀ B : Hp → Prop, (∀ H4, Same H2 H4 → ¬ op.head? = some o → B H4) → [V.str X].length ≤ sizeLine ∧ ∀ p, H3 p = none → oEq (Γ.at 1) (.ref pl) (.ref p) (upd H3 p (.lst [.str X])) fun x H' => asB x fun k => br k (A H') (B H') := fun X o A H3 hX s3 hA B hB => by
    refine ⟨szl (by simp only [List.length_cons, List.length_nil]; omega), fun p hp => ?_⟩
    have s4 := s3.trans (Same.mk (o := .lst [.str X]) hp)
    refine wo_last (op := op) o hX (SqL.of (s4 _ _ hl2)) (SqL.of upd_same) ?_
    walk_at "di"
    exact br_d (fun c => hA _ s4 c) fun c => hB _ s4 c
  have htl : op.tail.length ≤ 5000 := by rw [List.length_tail]; omega
  have eL : tx s ∈ [Str.ofString "|", Str.ofString "&", Str.ofString ">>"] ↔ endSg false s = true := by
    simp only [List.mem_cons, List.not_mem_nil, or_false, txw]
    unfold endSg
    simp
  have eT : tx s ∈ [Str.ofString "|", Str.ofString "&", Str.ofString "^"] ↔ endSg true s = true := by
    simp only [List.mem_cons, List.not_mem_nil, or_false, txw]
    unfold endSg
    simp
  rcases hw with rfl | rfl | rfl
  · refine br_t rfl ?_
    rw [gone] at hr
    refine ⟨fun σ' H' => σ' = [some (.str Wt.elook.str), some (.ref po), some (.str (tx s)), some (.ref pl), some (.ref pr)] ∧ Same H2 H' ∧ ¬ endSg false s = true, ?_, ?_⟩
    · refine ⟨szl (by simp only [List.length_cons, List.length_nil]; omega), fun p hp => ?_⟩
      have s3 := Same.mk (o := .lst [V.str (Str.ofString "|"), V.str (Str.ofString "&"), V.str (Str.ofString ">>")]) hp
      refine wo_inS (xs := [Str.ofString "|", Str.ofString "&", Str.ofString ">>"]) (.inl (SqL.of upd_same)) ?_
      walk_at "di"
      refine br_d (fun c => ?_) fun c => ?_
      · rw [if_pos (eL.mp c)] at hr
        exact gone_fin hr (s2.trans s3) ((s2.trans s3) _ _ hpo)
      · exact ⟨rfl, s3, fun z => c (eL.mpr z)⟩
    rintro σ' H3 ⟨rfl, s3, n1⟩
    rw [if_neg n1] at hr
    walk_at "dn"
    refine ⟨fun σ' H' => σ' = [some (.str Wt.elook.str), some (.ref po), some (.str (tx s)), some (.ref pl), some (.ref pr)] ∧ Same H2 H' ∧ ¬ (s = wd ")" ∧ op.head? = some .look), ?_, ?_⟩
    · refine br_d (fun c => ?_) fun c => ?_
      · refine st _ .look (fun H' => [V.str (Str.ofString "end look"), V.ref pr].length ≤ sizeLine ∧ ∀ p, H' p = none → Q (.ref p) (upd H' p (.tup [.str (Str.ofString "end look"), .ref pr]))) H3 rfl s3 (fun H4 s4 c2 => ?_) _ fun H4 s4 c2 => ?_
        · rw [if_pos ⟨txw.mp c, c2⟩] at hr
          exact gone_fin hr (s2.trans s4) (s4 _ _ hr2)
        · exact ⟨rfl, s4, fun z => c2 z.2⟩
      · exact ⟨rfl, s3, fun z => c (txw.mpr z.1)⟩
    clear s3
    rintro σ' H3 ⟨rfl, s3, n2⟩
    rw [if_neg n2] at hr
    walk_at "dn"
    refine ⟨fun σ' H' => σ' = [some (.str Wt.elook.str), some (.ref po), some (.str (tx s)), some (.ref pl), some (.ref pr)] ∧ Same H2 H' ∧ ¬ (s = wd "," ∧ op.head? = some .same), ?_, ?_⟩
    · refine br_d (fun c => ?_) fun c => ?_
      · refine st _ .same (fun H' => [V.str (Str.ofString "found")].length ≤ sizeLine ∧ ∀ p, H' p = none → oAdd (Γ.at 1) (.ref pr) (.ref p) (upd H' p (.lst [.str (Str.ofString "found")])) fun x H1 => [V.str (Str.ofString "look"), x].length ≤ sizeLine ∧ ∀ p, H1 p = none → Q (.ref p) (upd H1 p (.tup [.str (Str.ofString "look"), x]))) H3 rfl s3 (fun H4 s4 c2 => ?_) _ fun H4 s4 c2 => ?_
        · rw [if_pos ⟨txw.mp c, c2⟩] at hr
          exact push_fin (Γ := Γ.at 1) hr (s2.trans s4) (s4 _ _ hr2) htl
        · exact ⟨rfl, s4, fun z => c2 z.2⟩
      · exact ⟨rfl, s3, fun z => c (txw.mpr z.1)⟩
    clear s3
    rintro σ' H3 ⟨rfl, s3, n3⟩
    rw [if_neg n3] at hr
    walk_at "dn"
    refine br_d (fun c => ?_) fun c => ?_
    · refine st _ .found (fun H' => [V.str (Str.ofString "end asks"), V.ref pr].length ≤ sizeLine ∧ ∀ p, H' p = none → Q (.ref p) (upd H' p (.tup [.str (Str.ofString "end asks"), .ref pr]))) H3 rfl s3 (fun H4 s4 c2 => ?_) _ fun H4 s4 c2 => ?_
      · rw [if_pos ⟨txw.mp c, c2⟩] at hr
        exact gone_fin hr (s2.trans s4) (s4 _ _ hr2)
      · rw [if_neg (fun z => c2 z.2)] at hr
        exact hr _ (s2.trans s4)
    · rw [if_neg (fun z => c (txw.mpr z.1))] at hr
      exact hr _ (s2.trans s3)
  · refine br_f (by decide +kernel) ?_
    rw [gone] at hr
    refine br_f (by decide +kernel) ?_
    refine ⟨fun σ' H' => σ' = [some (.str Wt.easks.str), some (.ref po), some (.str (tx s)), some (.ref pl), some (.ref pr)] ∧ Same H2 H' ∧ ¬ endSg true s = true, ?_, ?_⟩
    · refine ⟨szl (by simp only [List.length_cons, List.length_nil]; omega), fun p hp => ?_⟩
      have s3 := Same.mk (o := .lst [V.str (Str.ofString "|"), V.str (Str.ofString "&"), V.str (Str.ofString "^")]) hp
      refine wo_inS (xs := [Str.ofString "|", Str.ofString "&", Str.ofString "^"]) (.inl (SqL.of upd_same)) ?_
      walk_at "di"
      refine br_d (fun c => ?_) fun c => ?_
      · rw [if_pos (eT.mp c)] at hr
        exact gone_fin hr (s2.trans s3) ((s2.trans s3) _ _ hpo)
      · exact ⟨rfl, s3, fun z => c (eT.mpr z)⟩
    rintro σ' H3 ⟨rfl, s3, n1⟩
    rw [if_neg n1] at hr
    walk_at "dn"
    refine ⟨fun σ' H' => σ' = [some (.str Wt.easks.str), some (.ref po), some (.str (tx s)), some (.ref pl), some (.ref pr)] ∧ Same H2 H' ∧ ¬ (s = wd ")" ∧ op.head? = some .test), ?_, ?_⟩
    · refine br_d (fun c => ?_) fun c => ?_
      · refine st _ .test (fun H' => [V.str (Str.ofString "end asks"), V.ref pr].length ≤ sizeLine ∧ ∀ p, H' p = none → Q (.ref p) (upd H' p (.tup [.str (Str.ofString "end asks"), .ref pr]))) H3 rfl s3 (fun H4 s4 c2 => ?_) _ fun H4 s4 c2 => ?_
        · rw [if_pos ⟨txw.mp c, c2⟩] at hr
          exact gone_fin hr (s2.trans s4) (s4 _ _ hr2)
        · exact ⟨rfl, s4, fun z => c2 z.2⟩
      · exact ⟨rfl, s3, fun z => c (txw.mpr z.1)⟩
    clear s3
    rintro σ' H3 ⟨rfl, s3, n2⟩
    rw [if_neg n2] at hr
    walk_at "dn"
    refine br_d (fun c => ?_) fun c => ?_
    · refine st _ .sq (fun H' => [V.str (Str.ofString "look"), V.ref pr].length ≤ sizeLine ∧ ∀ p, H' p = none → Q (.ref p) (upd H' p (.tup [.str (Str.ofString "look"), .ref pr]))) H3 rfl s3 (fun H4 s4 c2 => ?_) _ fun H4 s4 c2 => ?_
      · rw [if_pos ⟨txw.mp c, c2⟩] at hr
        exact gone_fin hr (s2.trans s4) (s4 _ _ hr2)
      · rw [if_neg (fun z => c2 z.2)] at hr
        exact hr _ (s2.trans s4)
    · rw [if_neg (fun z => c (txw.mpr z.1))] at hr
      exact hr _ (s2.trans s3)
  · refine br_f (by decide +kernel) (br_t rfl ?_)
    rw [gone] at hr
    refine br_d (fun c => ?_) fun c => ?_
    · rw [if_pos (txw.mp c)] at hr
      exact gone_fin hr s2 hr2
    · rw [if_neg (hn _ c)] at hr
      exact hr _ s2
/-- the law's step: symbols that no text has are wrong -/
def goneL (w : Wt) (op : List Op) (s : List Nat) : Option (Wt × List Op) := if s ∈ bads then none else gone w op s
theorem GoneR.same {K : PySem.W.Frag} {H H1 : Hp} {Q : VK} {r : Option (Wt × List Op)} (h : GoneR K H Q r) (s : Same H H1) : GoneR K H1 Q r := by
  rcases r with _ | ⟨w, op⟩
  · exact fun H' s' => h H' (s.trans s')
  · exact fun p po H' s' => h p po H' (s.trans s')
theorem at_last (o : Op) (op : List Op) : atI (stk (o :: op)) (-1) = some (V.str o.str) := by
  rw [stk_cons]
  unfold atI
  have e : ixN (stk op ++ [V.str o.str]).length (-1) = some (stk op).length := by
    rw [List.length_append, List.length_singleton]
    unfold ixN
    rw [if_neg (by decide), if_pos (by omega)]
    congr 1
    omega
  rw [e]
  show (stk op ++ [V.str o.str])[(stk op).length]? = _
  simp
def spGoneL (K : PySem.W.Frag) : Sp := fun vs H Q _ => ∃ (w : Wt) (op : List Op) (s : List Nat) (po : Addr), vs = [.str w.str, .ref po, .str (tx s)] ∧ H po = some (.lst (stk op)) ∧ op.length ≤ 5000 ∧ (w = .brk → op ≠ []) ∧ LSy s ∧ s.length ≤ 1000 ∧ GoneR K H Q (goneL w op s)
abbrev s_lgone : Stmt := topS 51
abbrev n_lgone : List Str := ["_law_want", "_law_open_so", "_law_symbol"]
theorem sc_lgone : FnScope n_lgone ["_law_want", "_law_open_so", "_law_symbol"] (defScope s_lgone) := ⟨rfl, rfl, rfl, by decide +kernel, rfl, by decide +kernel, by decide +kernel⟩
theorem nm_lgone : nvB n_lgone (defScope s_lgone) 0 "_law_want" = true ∧ nvB n_lgone (defScope s_lgone) 1 "_law_open_so" = true ∧ nvB n_lgone (defScope s_lgone) 2 "_law_symbol" = true ∧ gvB (defScope s_lgone) "_law_closed" = true ∧ gvB (defScope s_lgone) "_law_opened" = true ∧ gvB (defScope s_lgone) "_law_sort" = true := by decide +kernel
theorem cl_lgone {Γ : Gm} (dfn : Dfn Γ "_law_gone" s_lgone ["_law_want", "_law_open_so", "_law_symbol"]) (T : Names Γ) (c_law_sort : Cl Γ CX0 1 "_law_sort" spLSort []) (c_law_opened : Cl Γ CX0 2 "_law_opened" (spGone Γ.K [.look, .test] gone) []) (c_law_closed : Cl Γ CX0 2 "_law_closed" (spGone Γ.K [.elook, .easks, .ename] gone) []) : Cl Γ CX0 (3) "_law_gone" (spGoneL Γ.K) [] := by
  refine dfn.cl sc_lgone (fun vs H Q E h => ?_) (fun f cdv A outer s H vs Q E hg h => ?_)
  · obtain ⟨w, op, s, po, rfl, _⟩ := h
    rfl
  obtain ⟨w, op, s, po, rfl, hpo, hop, hbr, hs, hl, hr⟩ := h
  have nd := sc_lgone.nd
  obtain ⟨v0, v1, v2, g__law_closed, g__law_opened, g__law_sort⟩ := nm_lgone
  refine ⟨_, (pss_cons (ps_ifB (pt_cm (k_eq hg) (pcl c_law_sort hg (by omega) g__law_sort pass0 (pa_cons (ps 2 v2) pa_nil)) pe_str (nomark _))
    (pss_one (ps_ret pe_non))
    pss_nil)
    (pss_cons (ps_ifB (pt_cm (k_eq hg) (ps 0 v0) pe_str (nomark _))
    (C8.pss_cut (ps_ifB (pt_cm (k_ne hg) (ps 2 v2) pe_str (nomark _))
    (pss_one (ps_ret pe_non))
    pss_nil)
    (pss_one (ps_ret (pe_tup (pa_cons (pe_ifB (pt_cm (k_eq hg) (pe_ix (WX.ok hg) (ps 1 v1) (pe_un (k_neg hg) pe_int) (fun _ _ => rfl)) pe_str (nomark _)) pe_str pe_str) (pa_cons (ps 1 v1) pa_nil))))))
    pss_nil)
    (pss_cons (ps_ifB (pt_cm (k_eq hg) (ps 0 v0) pe_str (nomark _))
    (pss_one (ps_ret (pe_ifB (pt_cm (k_eq hg) (pcl c_law_sort hg (by omega) g__law_sort pass0 (pa_cons (ps 2 v2) pa_nil)) pe_str (nomark _)) (pe_tup (pa_cons pe_str (pa_cons (ps 1 v1) pa_nil))) pe_non)))
    pss_nil)
    (pss_cons (ps_ifB (PW.pt (pw_orB (pt_cm (k_eq hg) (ps 0 v0) pe_str (nomark _)) (pw_or1 (pt_cm (k_eq hg) (ps 0 v0) pe_str (nomark _)))))
    (pss_one (ps_ret (pcl c_law_opened hg (by omega) g__law_opened pass0 (pa_cons (ps 0 v0) (pa_cons (ps 1 v1) (pa_cons (ps 2 v2) pa_nil))))))
    pss_nil)
    (pss_one (ps_ret (pcl c_law_closed hg (by omega) g__law_closed pass0 (pa_cons (ps 0 v0) (pa_cons (ps 1 v1) (pa_cons (ps 2 v2) pa_nil)))))))))), ?_⟩
  refine st_start (σ := [some _, some _, some _]) rfl ?_
  walk_at "dn"
  refine ⟨s, rfl, hs, hl, fun H1 s1 => ?_⟩
  have hpo1 := s1 _ _ hpo
  walk_at "di"
  unfold goneL at hr
  refine br_d (fun c => ?_) fun c => ?_
  · rw [if_pos ((sort_none s).mp c)] at hr
    exact hr _ s1
  have hb : s ∉ bads := fun z => c ((sort_none s).mpr z)
  rw [if_neg hb] at hr
  have hn : ∀ x : String, ¬ tx s = Str.ofString x → s ≠ wd x := fun x h z => h (txw.mpr z)
  cases w with
  | brk =>
    refine br_t rfl ?_
    cases op with
    | nil => exact absurd rfl (hbr rfl)
    | cons o op =>
      rw [gone] at hr
      refine ⟨fun σ' H' => σ' = [some (.str Wt.brk.str), some (.ref po), some (.str (tx s))] ∧ H' = H1 ∧ s = wd "(", ?_, ?_⟩
      · rw [show (!decide (tx s = Str.ofString "(")) = decide (¬ tx s = Str.ofString "(") from by by_cases c : tx s = Str.ofString "(" <;> simp [c]]
        refine br_d (fun c => ?_) fun c => ?_
        · rw [if_neg (hn _ c)] at hr
          exact hr _ s1
        · exact ⟨rfl, rfl, txw.mp (Classical.not_not.mp c)⟩
      rintro σ' H2 ⟨rfl, rfl, es⟩
      rw [if_pos es] at hr
      walk_at "dn"
      refine wx_l (SqL.of hpo1) (at_last o op) ?_
      walk_at "di"
      cases o with
      | marked => exact br_t rfl (gone_fin hr s1 hpo1)
      | sq => exact br_f (by decide +kernel) (gone_fin hr s1 hpo1)
      | look => exact br_f (by decide +kernel) (gone_fin hr s1 hpo1)
      | test => exact br_f (by decide +kernel) (gone_fin hr s1 hpo1)
      | found => exact br_f (by decide +kernel) (gone_fin hr s1 hpo1)
      | same => exact br_f (by decide +kernel) (gone_fin hr s1 hpo1)
  | name =>
    refine br_f (by decide +kernel) (br_t rfl ?_)
    rw [gone] at hr
    refine ⟨s, rfl, hs, hl, fun H2 s2 => ?_⟩
    have s2 := s1.trans s2
    walk_at "di"
    refine br_d (fun c => ?_) fun c => ?_
    · rw [if_pos ((sort_word hb).mp c)] at hr
      exact gone_fin hr s2 (s2 _ _ hpo)
    · rw [if_neg (fun z => c ((sort_word hb).mpr z))] at hr
      exact hr _ s2
  | look =>
    refine br_f (by decide +kernel) (br_f (by decide +kernel) (br_t rfl ?_))
    exact ⟨.look, op, s, po, rfl, by simp, hpo1, hop, hs, hb, hl, hr.same s1⟩
  | test =>
    refine br_f (by decide +kernel) (br_f (by decide +kernel) (br_f (by decide +kernel) (br_t rfl ?_)))
    exact ⟨.test, op, s, po, rfl, by simp, hpo1, hop, hs, hb, hl, hr.same s1⟩
  | elook =>
    refine br_f (by decide +kernel) (br_f (by decide +kernel) (br_f (by decide +kernel) (br_f (by decide +kernel) ?_)))
    exact ⟨.elook, op, s, po, rfl, by simp, hpo1, hop, hs, hb, hl, hr.same s1⟩
  | easks =>
    refine br_f (by decide +kernel) (br_f (by decide +kernel) (br_f (by decide +kernel) (br_f (by decide +kernel) ?_)))
    exact ⟨.easks, op, s, po, rfl, by simp, hpo1, hop, hs, hb, hl, hr.same s1⟩
  | ename =>
    refine br_f (by decide +kernel) (br_f (by decide +kernel) (br_f (by decide +kernel) (br_f (by decide +kernel) ?_)))
    exact ⟨.ename, op, s, po, rfl, by simp, hpo1, hop, hs, hb, hl, hr.same s1⟩
def resV : Option Nat → V
  | none => .non
  | some p => .int p
theorem gone_brk {w : Wt} {op op' : List Op} {s : List Nat} (h : gone w op s = some (.brk, op')) : op' ≠ [] := by
  cases w with
  | brk =>
    rw [gone] at h
    split at h
    · by_cases c : op.head? = some .marked
      · rw [if_pos c] at h; cases h
      · rw [if_neg c] at h; cases h
    · cases h
  | name => rw [gone] at h; split at h <;> cases h
  | look => rw [gone] at h; split at h; cases h; split at h; cases h; split at h <;> cases h
  | test =>
    rw [gone] at h
    split at h; cases h
    split at h; cases h
    split at h; cases h
    split at h
    · cases h; exact fun z => nomatch z
    split at h
    · cases h; exact fun z => nomatch z
    split at h
    · cases h; exact fun z => nomatch z
    · cases h
  | elook => rw [gone] at h; split at h; cases h; split at h; cases h; split at h; cases h; split at h <;> cases h
  | ename => rw [gone] at h; split at h <;> cases h
  | easks => rw [gone] at h; split at h; cases h; split at h; cases h; split at h <;> cases h
theorem gone_len {w w' : Wt} {op op' : List Op} {s : List Nat} (h : gone w op s = some (w', op')) : op'.length ≤ op.length + 1 := by
  have t : op.tail.length ≤ op.length := by rw [List.length_tail]; omega
  cases w with
  | brk => rw [gone] at h; split at h <;> cases h; omega
  | name => rw [gone] at h; split at h <;> cases h; omega
  | look => rw [gone] at h; split at h; (cases h; omega); split at h; (cases h; simp); split at h <;> cases h; simp
  | test =>
    rw [gone] at h
    split at h; (cases h; omega)
    split at h; (cases h; omega)
    split at h; (cases h; simp)
    split at h; (cases h; simp)
    split at h; (cases h; simp)
    split at h <;> cases h
    simp
  | elook => rw [gone] at h; split at h; (cases h; omega); split at h; (cases h; omega); split at h; (cases h; rw [List.length_cons]; omega); split at h <;> cases h; omega
  | ename => rw [gone] at h; split at h <;> cases h; omega
  | easks => rw [gone] at h; split at h; (cases h; omega); split at h; (cases h; omega); split at h <;> cases h; omega
theorem wo_nilE {Γ : Gm} {H : Hp} {Q : VK} {op : List Op} {po p : Addr} (hl : SqL Γ.K H po (stk op)) (hp : SqL Γ.K H p []) (q : Q (.bl (decide (op = []))) H) : WO Γ (compareOp .Eq) (.ref po) (.ref p) H Q := by
  have e1 : stk op = (op.reverse.map Op.str).map V.str := by unfold stk; rw [List.map_map]; rfl
  rw [e1] at hl
  refine wo_eqD (d := .list ((op.reverse.map Op.str).map PyData.str)) (e := .list []) (.lst hl (dp_strs _)) (.lst hp .nil) (shaped_of ?_ ?_) rfl ?_
  · simp only [PyData.canLay0]
    refine canAll fun d hd => ?_
    obtain ⟨z, hz, rfl⟩ := List.mem_map.mp hd
    obtain ⟨o, _, rfl⟩ := List.mem_map.mp hz
    cases o <;> decide +kernel
  · simp only [PyData.depth]
    have := depAll (ds := (op.reverse.map Op.str).map PyData.str) (n := 1) fun d hd => by
      obtain ⟨z, hz, rfl⟩ := List.mem_map.mp hd
      simp [PyData.depth]
    omega
  have e : PyData.eqv (.list ((op.reverse.map Op.str).map PyData.str)) (.list []) = decide (op = []) := by
    cases op with
    | nil => rfl
    | cons o op =>
      rw [decide_eq_false (fun z => nomatch z), List.reverse_cons]
      cases op.reverse with
      | nil => rfl
      | cons _ _ => rfl
  rw [e]
  exact q
def spLWrong (K : PySem.W.Frag) : Sp := fun vs H Q _ => ∃ (ls lp : Addr) (sy : List Sy) (sz : Nat) (a : Bool), vs = [.ref ls, .ref lp, .int sz, .bl a] ∧ SqL K H ls (sy.map fun x => V.str (tx x.1)) ∧ SqL K H lp (sy.map fun x => V.int (x.2 : Nat)) ∧ sy.length ≤ 1000 ∧ (∀ x ∈ sy, LSy x.1 ∧ x.1.length ≤ 1000) ∧
  ∀ H', Same H H' → Q (resV (wrongL a sz (wantW a) [] sy)) H'
abbrev s_lwrong : Stmt := topS 52
abbrev n_lwrong : List Str := ["_law_symbols_so", "_law_places_so", "_law_size", "_law_asks", "_law_want", "_law_open_so", "_law_k", "_law_symbol", "_law_both", "_law_ended"]
theorem sc_lwrong : FnScope n_lwrong ["_law_symbols_so", "_law_places_so", "_law_size", "_law_asks"] (defScope s_lwrong) := ⟨rfl, rfl, rfl, by decide +kernel, rfl, by decide +kernel, by decide +kernel⟩
theorem nm_lwrong : nvB n_lwrong (defScope s_lwrong) 0 "_law_symbols_so" = true ∧ nvB n_lwrong (defScope s_lwrong) 1 "_law_places_so" = true ∧ nvB n_lwrong (defScope s_lwrong) 2 "_law_size" = true ∧ nvB n_lwrong (defScope s_lwrong) 3 "_law_asks" = true ∧ nvB n_lwrong (defScope s_lwrong) 4 "_law_want" = true ∧ nvB n_lwrong (defScope s_lwrong) 5 "_law_open_so" = true ∧ nvB n_lwrong (defScope s_lwrong) 6 "_law_k" = true ∧ nvB n_lwrong (defScope s_lwrong) 7 "_law_symbol" = true ∧ nvB n_lwrong (defScope s_lwrong) 8 "_law_both" = true ∧ nvB n_lwrong (defScope s_lwrong) 9 "_law_ended" = true ∧ lvB n_lwrong (defScope s_lwrong) 4 "_law_want" = true ∧ lvB n_lwrong (defScope s_lwrong) 5 "_law_open_so" = true ∧ lvB n_lwrong (defScope s_lwrong) 6 "_law_k" = true ∧ lvB n_lwrong (defScope s_lwrong) 7 "_law_symbol" = true ∧ lvB n_lwrong (defScope s_lwrong) 8 "_law_both" = true ∧ lvB n_lwrong (defScope s_lwrong) 9 "_law_ended" = true ∧ gvB (defScope s_lwrong) "_law_gone" = true ∧ gvB (defScope s_lwrong) "enumerate" = true := by decide +kernel
theorem cl_lwrong {Γ : Gm} (dfn : Dfn Γ "_law_wrong" s_lwrong ["_law_symbols_so", "_law_places_so", "_law_size", "_law_asks"]) (T : Names Γ) (c_law_gone : Cl Γ CX0 3 "_law_gone" (spGoneL Γ.K) []) : Cl Γ CX0 (4) "_law_wrong" (spLWrong Γ.K) [] := by
  refine dfn.cl sc_lwrong (fun vs H Q E h => ?_) (fun f cdv A outer s H vs Q E hg h => ?_)
  · obtain ⟨ls, lp, sy, sz, a, rfl, _⟩ := h
    rfl
  obtain ⟨ls, lp, sy, sz, a, rfl, hls, hlp, hn, hs, q⟩ := h
  have nd := sc_lwrong.nd
  obtain ⟨v0, v1, v2, v3, v4, v5, v6, v7, v8, v9, l4, l5, l6, l7, l8, l9, g__law_gone, g_enumerate⟩ := nm_lwrong
  refine ⟨_, (C8.pss_cut (ps_p2 (i := 4) (j := 5) rfl nd rfl rfl (by decide) rfl rfl (pa_cons (pe_ifB (pt_tr hg (ps 3 v3)) pe_str pe_str) (pa_cons (pe_lst pa_nil) pa_nil)) (by rfl))
    (C8.pss_cut (ps_for PassesOwn.never rfl (pi_en hg g_enumerate T.n_enumerate (pa_cons (ps 0 v0) pa_nil)) (pg_tK hg 2 rfl (pgs_c (pgn (i := 6) nd l6) (pgs_c (pgn (i := 7) nd l7) pgs_0)))
    (pss_cons (pst (i := 8) nd l8 (pcl c_law_gone hg (by omega) g__law_gone pass0 (pa_cons (ps 4 v4) (pa_cons (ps 5 v5) (pa_cons (ps 7 v7) pa_nil)))))
    (pss_cons (ps_ifB (pt_cm (k_is hg) (ps 8 v8) pe_non (nomark _))
    (pss_one (ps_ret (pe_ix (WX.ok hg) (ps 1 v1) (ps 6 v6) (fun _ _ => rfl))))
    pss_nil)
    (pss_one (ps_asg (ps 8 v8) (pg_tK hg 2 rfl (pgs_c (pgn (i := 4) nd l4) (pgs_c (pgn (i := 5) nd l5) pgs_0))))))))
    (pss_cons (pst (i := 9) nd l9 (pe_and2 hg (pe_cmpR (k_eq hg) (ps 4 v4) (pe_ifB (pt_tr hg (ps 3 v3)) pe_str pe_str) (nomark _)) (pe_one (pe_cmpR (k_eq hg) (ps 5 v5) (pe_lst pa_nil) (nomark _)))))
    (pss_one (ps_ret (pe_ifB (pt_tr hg (ps 9 v9)) pe_non (ps 2 v2))))))), ?_⟩
  refine st_start (σ := [some _, some _, some _, some _, none, none, none, none, none, none]) rfl ?_
  walk_at "dn"
  refine ⟨fun σ' H' => ∃ po : Addr, σ' = [some (.ref ls), some (.ref lp), some (.int sz), some (.bl a), some (.str (wantW a).str), some (.ref po), none, none, none, none] ∧ Same H H' ∧ H' po = some (.lst []), ?_, ?_⟩
  · cases a with
    | true => exact ⟨szl (by simp only [List.length_nil]; omega), fun p hp => ⟨p, rfl, Same.mk hp, upd_same⟩⟩
    | false => exact ⟨szl (by simp only [List.length_nil]; omega), fun p hp => ⟨p, rfl, Same.mk hp, upd_same⟩⟩
  rintro σ' H1 ⟨po, rfl, s1, hpo⟩
  walk_at "dn"
  refine ⟨fun σ' H' => ∃ (w : Wt) (op : List Op) (po : Addr) (c6 c7 c8 : Option V), σ' = [some (.ref ls), some (.ref lp), some (.int sz), some (.bl a), some (.str w.str), some (.ref po), c6, c7, c8, none] ∧ Same H H' ∧ H' po = some (.lst (stk op)) ∧ op.length ≤ 5000 ∧ (if w = endW a ∧ op = [] then none else some sz) = wrongL a sz (wantW a) [] sy, ?_, ?_⟩
  · refine ⟨ls, _, rfl, (Fr.of (S := []) s1).sql hls List.not_mem_nil, ?_⟩
    refine lp_it walk_enum (fun i σ H' => ∃ (w : Wt) (op : List Op) (po : Addr) (c6 c7 c8 : Option V), σ = [some (.ref ls), some (.ref lp), some (.int sz), some (.bl a), some (.str w.str), some (.ref po), c6, c7, c8, none] ∧ Same H H' ∧ H' po = some (.lst (stk op)) ∧ op.length ≤ i ∧ (w = .brk → op ≠ []) ∧ wrongL a sz w op (sy.drop i) = wrongL a sz (wantW a) [] sy)
      ⟨wantW a, [], po, _, _, _, rfl, s1, hpo, Nat.le_refl _, (fun z => absurd z (by cases a <;> decide)), rfl⟩ (fun _ _ H' _ ⟨_, _, _, _, _, _, _, s, _⟩ => (Fr.of (S := []) s).sql hls List.not_mem_nil) ?_ ?_
    · rintro i x σ H2 H' hi ⟨w, op, po, c6, c7, c8, rfl, s2, hpo2, hop, hbr, hw⟩ ⟨T, x1, y, rfl, hT, rfl, e1, e2⟩
      cases e1
      rw [List.length_map] at hi
      have e2 : (sy.map fun x => V.str (tx x.1))[i]? = some y := e2
      rw [List.getElem?_map] at e2
      obtain ⟨⟨u, pl⟩, hsy, rfl⟩ := Option.map_eq_some_iff.mp e2
      have sT := Same.mk (o := .tup [V.int i, V.str (tx u)]) hT
      refine gt_of (SqT.of upd_same) rfl ?_
      walk_at "dn"
      obtain ⟨hu1, hu2⟩ := hs _ (List.mem_of_getElem? hsy)
      have hd : sy.drop i = (u, pl) :: sy.drop (i + 1) := by
        obtain ⟨h', e⟩ := List.getElem?_eq_some_iff.mp hsy
        rw [List.drop_eq_getElem_cons h', e]
      rw [hd] at hw
      have hw : (if u ∈ bads then some pl else match gone w op u with
        | none => some pl
        | some st => wrongL a sz st.1 st.2 (sy.drop (i + 1))) = wrongL a sz (wantW a) [] sy := hw
      refine ⟨w, op, u, po, rfl, sT _ _ hpo2, by omega, hbr, hu1, hu2, ?_⟩
      have wrong : some pl = wrongL a sz (wantW a) [] sy → ∀ H3, Same (upd H2 T (.tup [V.int i, V.str (tx u)])) H3 → G.WX (Γ.at 3) (.ref lp) (.int i) H3 Q := fun e H3 s3 => by
        have s4 := (s2.trans sT).trans s3
        refine wx_l (v := .int pl) ((Fr.of (S := []) s4).sql hlp List.not_mem_nil) (at_nat (by rw [List.getElem?_map, hsy]; rfl)) ?_
        have := q H3 s4
        rw [← e] at this
        exact this
      unfold goneL
      by_cases hb : u ∈ bads
      · rw [if_pos hb] at hw ⊢
        intro H3 s3
        walk_at "dn"
        exact wrong hw H3 s3
      · rw [if_neg hb] at hw ⊢
        cases g : gone w op u with
        | none =>
          rw [g] at hw
          intro H3 s3
          walk_at "dn"
          exact wrong hw H3 s3
        | some st =>
          obtain ⟨w', op'⟩ := st
          rw [g] at hw
          intro p3 po3 H3 s3 hp3 hpo3
          walk_at "dn"
          refine gt_of hp3 rfl ?_
          walk_at "dn"
          exact ⟨w', op', po3, _, _, _, rfl, (s2.trans sT).trans s3, hpo3, by have := gone_len g; omega, (fun z => by subst z; exact gone_brk g), hw⟩
    · rintro σ H2 ⟨w, op, po, c6, c7, c8, rfl, s2, hpo2, hop, hbr, hw⟩
      rw [List.length_map] at hop hw
      rw [List.drop_length] at hw
      exact ⟨w, op, po, _, _, _, rfl, s2, hpo2, by omega, hw⟩
  clear s1 hpo
  rintro σ' H2 ⟨w, op, po, c6, c7, c8, rfl, s2, hpo2, hop, hw⟩
  walk_at "dn"
  cases a with
  | true =>
    refine br_d (fun c => ?_) fun c => br_f c ?_
    · have ew : w = .easks := by cases w <;> first | rfl | exact absurd c (by decide +kernel)
      refine ⟨szl (by simp only [List.length_nil]; omega), fun p hp => ?_⟩
      have s3 := Same.mk (o := .lst []) hp
      refine wo_nilE (op := op) (SqL.of (s3 _ _ hpo2)) (SqL.of upd_same) ?_
      walk_at "di"
      refine br_d (fun c2 => ?_) fun c2 => ?_
      · rw [if_pos ⟨ew, c2⟩] at hw
        have := q _ (s2.trans s3)
        rw [← hw] at this
        exact this
      · rw [if_neg (fun z => c2 z.2)] at hw
        have := q _ (s2.trans s3)
        rw [← hw] at this
        exact this
    · rw [if_neg (fun z => c (by rw [z.1]; rfl))] at hw
      have := q _ s2
      rw [← hw] at this
      exact this
  | false =>
    refine br_d (fun c => ?_) fun c => br_f c ?_
    · have ew : w = .elook := by cases w <;> first | rfl | exact absurd c (by decide +kernel)
      refine ⟨szl (by simp only [List.length_nil]; omega), fun p hp => ?_⟩
      have s3 := Same.mk (o := .lst []) hp
      refine wo_nilE (op := op) (SqL.of (s3 _ _ hpo2)) (SqL.of upd_same) ?_
      walk_at "di"
      refine br_d (fun c2 => ?_) fun c2 => ?_
      · rw [if_pos ⟨ew, c2⟩] at hw
        have := q _ (s2.trans s3)
        rw [← hw] at this
        exact this
      · rw [if_neg (fun z => c2 z.2)] at hw
        have := q _ (s2.trans s3)
        rw [← hw] at this
        exact this
    · rw [if_neg (fun z => c (by rw [z.1]; rfl))] at hw
      have := q _ s2
      rw [← hw] at this
      exact this
/-- a list of the law's symbols, with at most so many brackets opened -/
structure SyL (ss : List (List Nat)) (n k : Nat) : Prop where
  ok : ∀ s ∈ ss, LSy s ∧ s.length ≤ 100
  len : ss.length ≤ n
  op : opens ss ≤ k
theorem cutV_to (ss : List (List Nat)) (k : Nat) : cutV (sL ss) none (some (k : Int)) = sL (ss.take k) := by
  unfold cutV sL
  rw [HT.sIx_none, HT.sIx_nat, List.drop_zero, Nat.sub_zero, List.length_map, ← List.map_take]
  congr 1
  by_cases h : k ≤ ss.length
  · rw [Nat.min_eq_left h]
  · rw [Nat.min_eq_right (by omega), List.take_length, List.take_of_length_le (by omega)]
theorem cutV_from (ss : List (List Nat)) (k : Nat) : cutV (sL ss) (some (k : Int)) none = sL (ss.drop k) := by
  unfold cutV sL
  rw [HT.sIx_none, HT.sIx_nat, List.length_map, ← List.map_drop]
  by_cases h : k ≤ ss.length
  · rw [Nat.min_eq_left h, List.take_of_length_le (by rw [List.length_map, List.length_drop]; omega)]
  · rw [Nat.min_eq_right (by omega), List.drop_length, List.drop_eq_nil_of_le (by omega), List.map_nil, List.take_nil]
theorem opens_take (ss : List (List Nat)) (k : Nat) : opens (ss.take k) + opens (ss.drop k) = opens ss := by rw [← opens_app, List.take_append_drop]
theorem opens_1le (x : List Nat) (s : List (List Nat)) : opens s ≤ opens (x :: s) ∧ opens (x :: s) ≤ opens s + 1 := by
  rw [opens_1]
  split <;> omega
/-- what is put in -/
def goods : List (List Nat) := ["(", ")", "[", "]", ",", "|", "&", "^", "~", ">>", "here", "always", "found", "marked", "same", "+a", "-here", "ab", ">", "+", "-", "?", "+abcdefghi", "abcdefghi", "A", "1", "=", "."].map wd
/-- a symbol that texts have -/
def vsB (s : List Nat) : Bool := match s with
  | [] => false
  | c :: r => (sgnB c && r.isEmpty) || decide (s = wd ">>") || (decide (1 ≤ s.length ∧ s.length ≤ 8) && s.all isL) || (decide (c = 43 ∨ c = 45) && decide (1 ≤ r.length ∧ r.length ≤ 8) && r.all isL)
theorem vs_of {s : List Nat} (h : vsB s = true) : Vs s := by
  cases s with
  | nil => cases h
  | cons c r =>
    unfold vsB at h
    simp only [Bool.or_eq_true, Bool.and_eq_true, decide_eq_true_eq, List.all_eq_true, List.isEmpty_iff] at h
    rcases h with ((h | h) | h) | h
    · obtain ⟨h1, rfl⟩ := h
      exact .sgn h1
    · rw [h, show wd ">>" = [62, 62] from by decide +kernel]
      exact .go
    · exact .word h.1.1 h.1.2 h.2
    · exact .step h.1.1 h.1.2.1 h.1.2.2 h.2
theorem goods_ok : ∀ s ∈ goods, LSy s ∧ s.length ≤ 100 := by
  have key : ∀ s ∈ goods, (vsB s = true ∨ s ∈ bads) ∧ s.length ≤ 100 := by decide +kernel
  intro s hs
  obtain ⟨h1, h2⟩ := key s hs
  exact ⟨h1.elim (fun z => .inl (vs_of z)) .inr, h2⟩
theorem SyL.cut {ss : List (List Nat)} {n k : Nat} (h : SyL ss n k) (i : Nat) : SyL (ss.take i) n k :=
  ⟨fun s hs => h.ok s (List.mem_of_mem_take hs), by have := h.len; rw [List.length_take]; omega, by have := opens_take ss i; have := h.op; omega⟩
/-- one more symbol at some place, some left out behind it -/
theorem SyL.put {ss : List (List Nat)} {n k : Nat} (h : SyL ss n k) (i j : Nat) (x : List Nat) (hx : LSy x ∧ x.length ≤ 100) : SyL (ss.take i ++ [x] ++ (ss.drop i).drop j) (n + 1) (k + 1) := by
  refine ⟨fun s hs => ?_, ?_, ?_⟩
  · rcases List.mem_append.mp hs with hs | hs
    · rcases List.mem_append.mp hs with hs | hs
      · exact h.ok s (List.mem_of_mem_take hs)
      · rw [List.mem_singleton.mp hs]; exact hx
    · exact h.ok s (List.mem_of_mem_drop (List.mem_of_mem_drop hs))
  · have := h.len
    simp only [List.length_append, List.length_take, List.length_drop, List.length_singleton]
    omega
  · have h1 := opens_take ss i
    have h2 := opens_take (ss.drop i) j
    have h3 := h.op
    have h4 := (opens_1le x []).2
    rw [opens_nil] at h4
    rw [opens_app, opens_app]
    omega
theorem SyL.gone {ss : List (List Nat)} {n k : Nat} (h : SyL ss n k) (i j : Nat) : SyL (ss.take i ++ (ss.drop i).drop j) n k := by
  refine ⟨fun s hs => ?_, ?_, ?_⟩
  · rcases List.mem_append.mp hs with hs | hs
    · exact h.ok s (List.mem_of_mem_take hs)
    · exact h.ok s (List.mem_of_mem_drop (List.mem_of_mem_drop hs))
  · have := h.len
    simp only [List.length_append, List.length_take, List.length_drop]
    omega
  · have h1 := opens_take ss i
    have h2 := opens_take (ss.drop i) j
    have h3 := h.op
    rw [opens_app]
    omega
theorem SyL.swap {ss : List (List Nat)} {n k : Nat} (h : SyL ss n k) (i : Nat) {x y : List Nat} {r : List (List Nat)} (e : ss.drop i = x :: y :: r) : SyL (ss.take i ++ [y, x] ++ r) n k := by
  have hm : ∀ s ∈ x :: y :: r, s ∈ ss := fun s hs => List.mem_of_mem_drop (e ▸ hs)
  have hl := congrArg List.length e
  rw [List.length_drop] at hl
  simp only [List.length_cons] at hl
  refine ⟨fun s hs => ?_, ?_, ?_⟩
  · rcases List.mem_append.mp hs with hs | hs
    · rcases List.mem_append.mp hs with hs | hs
      · exact h.ok s (List.mem_of_mem_take hs)
      · simp only [List.mem_cons, List.not_mem_nil, or_false] at hs
        rcases hs with rfl | rfl
        · exact h.ok _ (hm _ (.tail _ (.head _)))
        · exact h.ok _ (hm _ (.head _))
    · exact h.ok s (hm _ (.tail _ (.tail _ hs)))
  · have := h.len
    simp only [List.length_append, List.length_take, List.length_cons, List.length_nil]
    omega
  · have h1 := opens_take ss i
    have h3 := h.op
    rw [e, opens_1, opens_1] at h1
    rw [opens_app, opens_app, opens_1, opens_1, opens_nil]
    omega
def spLSpoilt (K : PySem.W.Frag) : Sp := fun vs H Q _ => ∃ (b ls : Addr) (ss : List (List Nat)) (m n k : Nat), vs = [.ref b, .ref ls] ∧ Box b (m + 3) H ∧ H ls = some (.lst (sL ss)) ∧ ls ≠ b ∧ SyL ss n k ∧ n ≤ 500 ∧
  ∀ p ss' H', Fr [b] H H' → Box b m H' → p ≠ b → H' p = some (.lst (sL ss')) → SyL ss' (n + 1) (k + 1) → Q (.ref p) H'
abbrev s_lspoilt : Stmt := topS 53
abbrev n_lspoilt : List Str := ["_law_box_here", "_law_symbols_so", "_law_at_here", "_law_word", "_law_front", "_law_rear", "_law_goods_so"]
theorem sc_lspoilt : FnScope n_lspoilt ["_law_box_here", "_law_symbols_so"] (defScope s_lspoilt) := ⟨rfl, rfl, rfl, by decide +kernel, rfl, by decide +kernel, by decide +kernel⟩
theorem nm_lspoilt : nvB n_lspoilt (defScope s_lspoilt) 0 "_law_box_here" = true ∧ nvB n_lspoilt (defScope s_lspoilt) 1 "_law_symbols_so" = true ∧ nvB n_lspoilt (defScope s_lspoilt) 2 "_law_at_here" = true ∧ nvB n_lspoilt (defScope s_lspoilt) 3 "_law_word" = true ∧ nvB n_lspoilt (defScope s_lspoilt) 4 "_law_front" = true ∧ nvB n_lspoilt (defScope s_lspoilt) 5 "_law_rear" = true ∧ nvB n_lspoilt (defScope s_lspoilt) 6 "_law_goods_so" = true ∧ lvB n_lspoilt (defScope s_lspoilt) 6 "_law_goods_so" = true ∧ gvB (defScope s_lspoilt) "_law_of" = true ∧ gvB (defScope s_lspoilt) "_law_take" = true ∧ gvB (defScope s_lspoilt) "len" = true := by decide +kernel
theorem cl_lspoilt {Γ : Gm} (dfn : Dfn Γ "_law_spoilt" s_lspoilt ["_law_box_here", "_law_symbols_so"]) (T : Names Γ) (c_law_take : Cl Γ CX0 1 "_law_take" spTake []) (c_law_of : Cl Γ CX0 2 "_law_of" (spOf Γ.K) []) : Cl Γ CX0 (3) "_law_spoilt" (spLSpoilt Γ.K) [] := by
  refine dfn.cl sc_lspoilt (fun vs H Q E h => ?_) (fun f cdv A outer s H vs Q E hg h => ?_)
  · obtain ⟨b, ls, ss, m, n, k, rfl, _⟩ := h
    rfl
  obtain ⟨b, ls, ss, m, n, k, rfl, hb, hls, hne, hy, hn, q⟩ := h
  have nd := sc_lspoilt.nd
  obtain ⟨v0, v1, v2, v3, v4, v5, v6, l6, g__law_of, g__law_take, g_len⟩ := nm_lspoilt
  refine ⟨_, (pss_cons (ps_p2 (i := 2) (j := 3) rfl nd rfl rfl (by decide) rfl rfl (pa_cons (pcl c_law_take hg (by omega) g__law_take pass0 (pa_cons (ps 0 v0) (pa_cons (pe_op (k_add hg) (pcb (k_len hg) g_len T.n_len bt_len (pa_cons (ps 1 v1) pa_nil)) pe_int) pa_nil))) (pa_cons (pcl c_law_take hg (by omega) g__law_take pass0 (pa_cons (ps 0 v0) (pa_cons pe_int pa_nil))) pa_nil)) (by rfl))
    (C8.pss_cut (ps_p2 (i := 4) (j := 5) rfl nd rfl rfl (by decide) rfl rfl (pa_cons (pe_slice (WL.ok hg) (ps 1 v1) po_none (po_pt (ps 2 v2))) (pa_cons (pe_slice (WL.ok hg) (ps 1 v1) (po_pt (ps 2 v2)) po_none) pa_nil)) (by rfl))
    (C8.pss_cut (ps_ifB (pt_cm (k_eq hg) (ps 3 v3) pe_int (nomark _))
    (pss_one (ps_ret (ps 4 v4)))
    pss_nil)
    (C8.pss_cut (ps_ifB (pt_cm (k_eq hg) (ps 3 v3) pe_int (nomark _))
    (pss_one (ps_ret (pe_op (k_add hg) (ps 4 v4) (pe_slice (WL.ok hg) (ps 5 v5) (po_pt pe_int) po_none))))
    pss_nil)
    (C8.pss_cut (ps_ifB (PW.pt (pw_andB (pt_cm (k_eq hg) (ps 3 v3) pe_int (nomark _)) (pw_and1 (pt_cm (k_gt hg) (pcb (k_len hg) g_len T.n_len bt_len (pa_cons (ps 5 v5) pa_nil)) pe_int (nomark _)))))
    (pss_one (ps_ret (pe_op (k_add hg) (pe_op (k_add hg) (ps 4 v4) (pe_lst (pa_cons (pe_ix (WX.ok hg) (ps 5 v5) pe_int (fun _ _ => rfl)) (pa_cons (pe_ix (WX.ok hg) (ps 5 v5) pe_int (fun _ _ => rfl)) pa_nil)))) (pe_slice (WL.ok hg) (ps 5 v5) (po_pt pe_int) po_none))))
    pss_nil)
    (C8.pss_cut (pst (i := 6) nd l6 (pe_lst (pa_cons pe_str (pa_cons pe_str (pa_cons pe_str (pa_cons pe_str (pa_cons pe_str (pa_cons pe_str (pa_cons pe_str (pa_cons pe_str (pa_cons pe_str (pa_cons pe_str (pa_cons pe_str (pa_cons pe_str (pa_cons pe_str (pa_cons pe_str (pa_cons pe_str (pa_cons pe_str pa_nil))))))))))))))))))
    (C8.pss_cut (pst (i := 6) nd l6 (pe_op (k_add hg) (ps 6 v6) (pe_lst (pa_cons pe_str (pa_cons pe_str (pa_cons pe_str (pa_cons pe_str (pa_cons pe_str (pa_cons pe_str (pa_cons pe_str (pa_cons pe_str (pa_cons pe_str (pa_cons pe_str (pa_cons pe_str (pa_cons pe_str pa_nil)))))))))))))))
    (pss_one (ps_ret (pe_op (k_add hg) (pe_op (k_add hg) (ps 4 v4) (pe_lst (pa_cons (pcl c_law_of hg (by omega) g__law_of pass0 (pa_cons (ps 0 v0) (pa_cons (ps 6 v6) pa_nil))) pa_nil))) (pe_ifB (pt_cm (k_eq hg) (ps 3 v3) pe_int (nomark _)) (ps 5 v5) (pe_slice (WL.ok hg) (ps 5 v5) (po_pt pe_int) po_none)))))))))))), ?_⟩
  refine st_start (σ := [some _, some _, none, none, none, none, none]) rfl ?_
  walk_at "dn"
  refine wc_len_l (SqL.of hls) ?_
  walk_at "di"
  have hsl : (sL ss).length = ss.length := by unfold sL; rw [List.length_map]
  have hln := hy.len
  rw [hsl]
  refine ⟨b, (ss.length : Int) + 1, m + 2, rfl, by omega, by omega, hb.less (by omega), fun r H1 r0 r1 f1 b1 => ?_⟩
  obtain ⟨i, rfl, hi⟩ : ∃ i : Nat, r = i ∧ i ≤ ss.length := ⟨r.toNat, by omega, by omega⟩
  refine ⟨b, 5, m + 1, rfl, by omega, by omega, b1.less (by omega), fun w H2 w0 w1 f2 b2 => ?_⟩
  have f12 := f1.trans f2
  have hls2 := f12 _ _ (fun z => hne (List.mem_singleton.mp z)) hls
  have nbx : ∀ {H : Hp} {j : Nat} {p : Addr}, Box b j H → H p = none → p ≠ b := fun hbx hp z => by
    obtain ⟨xs, e⟩ := hbx.cell
    rw [z, e] at hp; cases hp
  walk_at "di"
  refine ⟨fun σ' H' => ∃ pf pr : Addr, σ' = [some (.ref b), some (.ref ls), some (.int i), some (.int w), some (.ref pf), some (.ref pr), none] ∧ Fr [b] H H' ∧ Box b (m + 1) H' ∧ H' pf = some (.lst (sL (ss.take i))) ∧ H' pr = some (.lst (sL (ss.drop i))) ∧ pf ≠ b ∧ pr ≠ b, ?_, ?_⟩
  · refine wl_l (SqL.of hls2) fun pf hpf => ?_
    rw [cutV_to]
    have s3 := Same.mk (o := .lst (sL (ss.take i))) hpf
    refine wl_l (SqL.of (s3 _ _ hls2)) fun pr hpr => ?_
    rw [cutV_from]
    have s4 := Same.mk (o := .lst (sL (ss.drop i))) hpr
    exact ⟨pf, pr, rfl, f12.trans (Fr.of (s3.trans s4)), b2.same (s3.trans s4), s4 _ _ upd_same, upd_same, nbx b2 hpf, nbx (b2.same s3) hpr⟩
  clear f1 f2 f12 hls2 b1 b2 hb
  rintro σ' H3 ⟨pf, pr, rfl, f3, b3, hpf, hpr, nf, nr⟩
  walk_at "dn"
  refine ⟨fun σ' H' => σ' = [some (.ref b), some (.ref ls), some (.int i), some (.int w), some (.ref pf), some (.ref pr), none] ∧ H' = H3, ?_, ?_⟩
  · refine br_d (fun c => ?_) fun c => ⟨rfl, rfl⟩
    have := hy.cut i
    exact q pf _ H3 f3 (b3.less (by omega)) nf hpf ⟨this.ok, by have := this.len; omega, by have := this.op; omega⟩
  rintro σ' H3 ⟨rfl, rfl⟩
  walk_at "dn"
  have dl : ∀ j, ((ss.drop i).drop j).length ≤ 500 := fun j => by rw [List.length_drop, List.length_drop]; omega
  have tl : (ss.take i).length ≤ 500 := by rw [List.length_take]; omega
  refine ⟨fun σ' H' => σ' = [some (.ref b), some (.ref ls), some (.int i), some (.int w), some (.ref pf), some (.ref pr), none] ∧ H' = H3, ?_, ?_⟩
  · refine br_d (fun c => ?_) fun c => ⟨rfl, rfl⟩
    refine wl_l (SqL.of hpr) fun p2 hp2 => ?_
    rw [show cutV (sL (ss.drop i)) (some 1) none = sL ((ss.drop i).drop 1) from cutV_from _ 1]
    have s5 := Same.mk (o := .lst (sL ((ss.drop i).drop 1))) hp2
    refine oadd_sl (s5 _ _ hpf) upd_same (by have := dl 1; omega) fun p4 hp4 => ?_
    have s6 := Same.mk (o := .lst (sL (ss.take i ++ (ss.drop i).drop 1))) hp4
    have := hy.gone i 1
    exact q p4 _ _ (f3.trans (Fr.of (s5.trans s6))) ((b3.same (s5.trans s6)).less (by omega)) (nbx (b3.same s5) hp4) upd_same ⟨this.ok, by have := this.len; omega, by have := this.op; omega⟩
  rintro σ' H3 ⟨rfl, rfl⟩
  walk_at "dn"
  refine ⟨fun σ' H' => σ' = [some (.ref b), some (.ref ls), some (.int i), some (.int w), some (.ref pf), some (.ref pr), none] ∧ H' = H3, ?_, ?_⟩
  · refine br_d (fun c => ?_) fun c => ⟨rfl, rfl⟩
    refine wc_len_l (SqL.of hpr) ?_
    walk_at "di"
    refine br_d (fun c2 => ?_) fun c2 => ⟨rfl, rfl⟩
    have c2 : 1 < (ss.drop i).length := by unfold sL at c2; rw [List.length_map] at c2; omega
    obtain ⟨x, y, r, e⟩ : ∃ x y r, ss.drop i = x :: y :: r := by
      match h : ss.drop i, c2 with
      | x :: y :: r, _ => exact ⟨x, y, r, rfl⟩
      | [x], c2 => simp at c2
      | [], c2 => simp at c2
    rw [e] at hpr
    refine wx_l (v := .str (tx y)) (SqL.of hpr) (atG (j := 1) rfl rfl) (wx_l (v := .str (tx x)) (SqL.of hpr) (atG (j := 0) rfl rfl) ?_)
    refine ⟨szl (by simp only [List.length_cons, List.length_nil]; omega), fun p2 hp2 => ?_⟩
    have s5 := Same.mk (o := .lst [.str (tx y), .str (tx x)]) hp2
    refine oadd_sl (A := ss.take i) (B := [y, x]) (s5 _ _ hpf) upd_same (by simp only [List.length_cons, List.length_nil]; omega) fun p4 hp4 => ?_
    have s6 := Same.mk (o := .lst (sL (ss.take i ++ [y, x]))) hp4
    refine wl_l (SqL.of ((s5.trans s6) _ _ hpr)) fun p5 hp5 => ?_
    rw [show cutV (sL (x :: y :: r)) (some 2) none = sL r from cutV_from _ 2]
    have s7 := Same.mk (o := .lst (sL r)) hp5
    have rl := dl 2
    rw [e] at rl
    refine oadd_sl (s7 _ _ upd_same) upd_same (by have rl : r.length ≤ 500 := rl; simp only [List.length_append, List.length_cons, List.length_nil]; omega) fun p6 hp6 => ?_
    have s8 := Same.mk (o := .lst (sL (ss.take i ++ [y, x] ++ r))) hp6
    have := hy.swap i e
    exact q p6 _ _ (f3.trans (Fr.of (((s5.trans s6).trans s7).trans s8))) ((b3.same (((s5.trans s6).trans s7).trans s8)).less (by omega)) (nbx (b3.same ((s5.trans s6).trans s7)) hp6) upd_same ⟨this.ok, by have := this.len; omega, by have := this.op; omega⟩
  rintro σ' H3 ⟨rfl, rfl⟩
  walk_at "dn"
  refine ⟨fun σ' H' => ∃ pg : Addr, σ' = [some (.ref b), some (.ref ls), some (.int i), some (.int w), some (.ref pf), some (.ref pr), some (.ref pg)] ∧ Same H3 H' ∧ H' pg = some (.lst (sL (goods.take 16))), ?_, ?_⟩
  · refine ⟨szl (by simp only [List.length_cons, List.length_nil]; omega), fun p hp => ⟨p, rfl, Same.mk hp, ?_⟩⟩
    have e : [Str.ofString "(", Str.ofString ")", Str.ofString "[", Str.ofString "]", Str.ofString ",", Str.ofString "|", Str.ofString "&", Str.ofString "^", Str.ofString "~", Str.ofString ">>", Str.ofString "here", Str.ofString "always", Str.ofString "found", Str.ofString "marked", Str.ofString "same", Str.ofString "+a"] = (goods.take 16).map tx := by decide +kernel
    have e2 := congrArg (List.map V.str) e
    rw [List.map_map] at e2
    rw [upd_same]
    exact congrArg (fun l => some (HO.lst l)) e2
  rintro σ' H4 ⟨pg, rfl, s4, hg⟩
  walk_at "dn"
  refine ⟨fun σ' H' => ∃ pg : Addr, σ' = [some (.ref b), some (.ref ls), some (.int i), some (.int w), some (.ref pf), some (.ref pr), some (.ref pg)] ∧ Same H3 H' ∧ H' pg = some (.lst (sL goods)) ∧ pg ≠ b, ?_, ?_⟩
  · refine ⟨szl (by simp only [List.length_cons, List.length_nil]; omega), fun p hp => ?_⟩
    have e : [Str.ofString "-here", Str.ofString "ab", Str.ofString ">", Str.ofString "+", Str.ofString "-", Str.ofString "?", Str.ofString "+abcdefghi", Str.ofString "abcdefghi", Str.ofString "A", Str.ofString "1", Str.ofString "=", Str.ofString "."] = (goods.drop 16).map tx := by decide +kernel
    have e2 := congrArg (List.map V.str) e
    rw [List.map_map] at e2
    have e2 : [V.str (Str.ofString "-here"), V.str (Str.ofString "ab"), V.str (Str.ofString ">"), V.str (Str.ofString "+"), V.str (Str.ofString "-"), V.str (Str.ofString "?"), V.str (Str.ofString "+abcdefghi"), V.str (Str.ofString "abcdefghi"), V.str (Str.ofString "A"), V.str (Str.ofString "1"), V.str (Str.ofString "="), V.str (Str.ofString ".")] = sL (goods.drop 16) := e2
    rw [e2]
    have s5 := Same.mk (o := .lst (sL (goods.drop 16))) hp
    refine oadd_sl (s5 _ _ hg) upd_same (by decide +kernel) fun p2 hp2 => ?_
    have s6 := Same.mk (o := .lst (sL (goods.take 16 ++ goods.drop 16))) hp2
    refine ⟨p2, rfl, (s4.trans s5).trans s6, by rw [upd_same, List.take_append_drop], nbx (b3.same (s4.trans s5)) hp2⟩
  clear s4 hg
  rintro σ' H4 ⟨pg, rfl, s4, hg, ng⟩
  walk_at "dn"
  have b4 := b3.same s4
  have f4 := f3.trans (Fr.of s4)
  refine ⟨b, .ref pg, m, rfl, b4, .inl ⟨pg, _, rfl, ng, SqL.of hg, by decide +kernel, by decide +kernel, fun v hv H5 f5 b5 => ?_⟩⟩
  obtain ⟨x, hx, rfl⟩ : ∃ x, x ∈ goods ∧ V.str (tx x) = v := by
    unfold sL at hv
    obtain ⟨x, h1, h2⟩ := List.mem_map.mp hv
    exact ⟨x, h1, h2⟩
  have gx := goods_ok x hx
  have hpf5 := f5 _ _ (fun z => nf (List.mem_singleton.mp z)) (s4 _ _ hpf)
  have hpr5 := f5 _ _ (fun z => nr (List.mem_singleton.mp z)) (s4 _ _ hpr)
  refine ⟨szl (by simp only [List.length_cons, List.length_nil]; omega), fun p2 hp2 => ?_⟩
  have s6 := Same.mk (o := .lst [.str (tx x)]) hp2
  refine oadd_sl (A := ss.take i) (B := [x]) (s6 _ _ hpf5) upd_same (by simp only [List.length_cons, List.length_nil]; omega) fun p3 hp3 => ?_
  have s7 := Same.mk (o := .lst (sL (ss.take i ++ [x]))) hp3
  have hln3 : (ss.take i ++ [x]).length ≤ 501 := by rw [List.length_append, List.length_singleton]; omega
  refine br_d (fun c => ?_) fun c => ?_
  · have d0 : ss.drop i = (ss.drop i).drop 0 := rfl
    refine oadd_sl upd_same ((s6.trans s7) _ _ hpr5) (by have := dl 0; rw [← d0] at this; omega) fun p4 hp4 => ?_
    have s8 := Same.mk (o := .lst (sL (ss.take i ++ [x] ++ ss.drop i))) hp4
    have := hy.put i 0 x gx
    exact q p4 _ _ ((f4.trans f5).trans (Fr.of ((s6.trans s7).trans s8))) (b5.same ((s6.trans s7).trans s8)) (nbx (b5.same (s6.trans s7)) hp4) upd_same this
  · refine wl_l (SqL.of ((s6.trans s7) _ _ hpr5)) fun p5 hp5 => ?_
    rw [show cutV (sL (ss.drop i)) (some 1) none = sL ((ss.drop i).drop 1) from cutV_from _ 1]
    have s8 := Same.mk (o := .lst (sL ((ss.drop i).drop 1))) hp5
    refine oadd_sl (s8 _ _ upd_same) upd_same (by have := dl 1; omega) fun p4 hp4 => ?_
    have s9 := Same.mk (o := .lst (sL (ss.take i ++ [x] ++ (ss.drop i).drop 1))) hp4
    have := hy.put i 1 x gx
    exact q p4 _ _ ((f4.trans f5).trans (Fr.of (((s6.trans s7).trans s8).trans s9))) (b5.same (((s6.trans s7).trans s8).trans s9)) (nbx (b5.same ((s6.trans s7).trans s8)) hp4) upd_same this
theorem txtB_bl : ∀ (ps : List (Nat × List Nat)) (e n : Nat), txtB ps e ++ List.replicate n 32 = txtB ps (e + n)
  | [], e, n => by
    show List.replicate e 32 ++ List.replicate n 32 = List.replicate (e + n) 32
    rw [List.replicate_append_replicate]
  | (m, s) :: r, e, n => by
    show List.replicate m 32 ++ (s ++ txtB r e) ++ _ = List.replicate m 32 ++ (s ++ txtB r (e + n))
    rw [List.append_assoc, List.append_assoc, txtB_bl r e n]
theorem txtB_put : ∀ (ps : List (Nat × List Nat)) (e : Nat) (u : List Nat), txtB ps e ++ u = txtB (ps ++ [(e, u)]) 0
  | [], e, u => by
    show List.replicate e 32 ++ u = List.replicate e 32 ++ (u ++ [])
    rw [List.append_nil]
  | (m, s) :: r, e, u => by
    show List.replicate m 32 ++ (s ++ txtB r e) ++ u = List.replicate m 32 ++ (s ++ txtB (r ++ [(e, u)]) 0)
    rw [List.append_assoc, List.append_assoc, txtB_put r e u]
theorem plS_put : ∀ (ps : List (Nat × List Nat)) (e at_ : Nat) (u : List Nat), plS at_ (ps ++ [(e, u)]) = plS at_ ps ++ [(u, at_ + (txtB ps e).length)]
  | [], e, at_, u => by
    show [(u, at_ + e)] = [(u, at_ + (List.replicate e 32).length)]
    rw [List.length_replicate]
  | (m, s) :: r, e, at_, u => by
    show (s, at_ + m) :: plS (at_ + m + s.length) (r ++ [(e, u)]) = (s, at_ + m) :: (plS (at_ + m + s.length) r ++ [(u, at_ + (List.replicate m 32 ++ (s ++ txtB r e)).length)])
    rw [plS_put r e _ u]
    simp only [List.length_append, List.length_replicate]
    rw [show at_ + m + s.length + (txtB r e).length = at_ + (m + (s.length + (txtB r e).length)) from by omega]
theorem plS_map : ∀ (ps : List (Nat × List Nat)) (at_ : Nat), (plS at_ ps).map Prod.fst = ps.map Prod.snd
  | [], _ => rfl
  | (n, s) :: r, at_ => by
    show s :: _ = s :: _
    rw [plS_map r]
theorem okL_put : ∀ {ps : List (Nat × List Nat)} {n : Nat} {s : List Nat}, OkL ps → LSy s → (∀ m u, ps.getLast? = some (m, u) → sg1 u = false → n = 0 → sg1 s = true) → OkL (ps ++ [(n, s)])
  | [], n, s, _, h, _ => ⟨h, (fun _ _ _ z => nomatch z), trivial⟩
  | (m, u) :: r, n, s, ok, h, hl => by
    refine ⟨ok.1, fun hu n2 u2 e hn => ?_, okL_put (ps := r) ok.2.2 h fun m2 u2 e => hl m2 u2 ?_⟩
    · cases r with
      | nil =>
        have e : some (n, s) = some (n2, u2) := e
        cases e
        exact hl m u rfl hu hn
      | cons x r => exact ok.2.1 hu n2 u2 e hn
    · cases r with
      | nil => cases e
      | cons x r => rw [List.getLast?_cons_cons]; exact e
/-- signs of one character -/
def ones : List (List Nat) := [wd "(", wd ")", wd "[", wd "]", wd ",", wd "|", wd "&", wd "^", wd "~"]
theorem ones_sg {s : List Nat} (h : s ∈ ones) : sg1 s = true := by
  have key : ∀ s ∈ ones, sg1 s = true := by decide +kernel
  exact key s h
def spLLaid (K : PySem.W.Frag) : Sp := fun vs H Q _ => ∃ (b ls : Addr) (ss : List (List Nat)) (m n k : Nat), vs = [.ref b, .ref ls] ∧ Box b (m + 600) H ∧ H ls = some (.lst (sL ss)) ∧ ls ≠ b ∧ SyL ss n k ∧ n ≤ 500 ∧
  ∀ T lp ps e H', Fr [b] H H' → Box b m H' → SqT K H' T [.str (tx (txtB ps e)), .ref lp] → H' lp = some (.lst ((plS 0 ps).map fun x => V.int (x.2 : Nat))) → ps.map Prod.snd = ss → OkL ps → (txtB ps e).length ≤ 60000 → Q (.ref T) H'
abbrev s_llaid : Stmt := topS 54
abbrev n_llaid : List Str := ["_law_box_here", "_law_symbols_so", "_law_words", "_law_places_so", "_law_last", "_law_symbol", "_law_near_so", "_law_wide", "_law_own"]
theorem sc_llaid : FnScope n_llaid ["_law_box_here", "_law_symbols_so"] (defScope s_llaid) := ⟨rfl, rfl, rfl, by decide +kernel, rfl, by decide +kernel, by decide +kernel⟩
theorem nm_llaid : nvB n_llaid (defScope s_llaid) 0 "_law_box_here" = true ∧ nvB n_llaid (defScope s_llaid) 1 "_law_symbols_so" = true ∧ nvB n_llaid (defScope s_llaid) 2 "_law_words" = true ∧ nvB n_llaid (defScope s_llaid) 3 "_law_places_so" = true ∧ nvB n_llaid (defScope s_llaid) 4 "_law_last" = true ∧ nvB n_llaid (defScope s_llaid) 5 "_law_symbol" = true ∧ nvB n_llaid (defScope s_llaid) 6 "_law_near_so" = true ∧ nvB n_llaid (defScope s_llaid) 7 "_law_wide" = true ∧ lvB n_llaid (defScope s_llaid) 2 "_law_words" = true ∧ lvB n_llaid (defScope s_llaid) 5 "_law_symbol" = true ∧ lvB n_llaid (defScope s_llaid) 7 "_law_wide" = true ∧ gvB (defScope s_llaid) "_law_take" = true ∧ gvB (defScope s_llaid) "len" = true := by decide +kernel
theorem cl_llaid {Γ : Gm} (dfn : Dfn Γ "_law_laid" s_llaid ["_law_box_here", "_law_symbols_so"]) (T : Names Γ) (c_law_take : Cl Γ CX0 1 "_law_take" spTake []) : Cl Γ CX0 (3) "_law_laid" (spLLaid Γ.K) [] := by
  refine dfn.cl sc_llaid (fun vs H Q E h => ?_) (fun f cdv A outer s H vs Q E hg h => ?_)
  · obtain ⟨b, ls, ss, m, n, k, rfl, _⟩ := h
    rfl
  obtain ⟨b, ls, ss, m, n, k, rfl, hb, hls, hne, hy, hn, q⟩ := h
  have nd := sc_llaid.nd
  obtain ⟨v0, v1, v2, v3, v4, v5, v6, v7, l2, l5, l7, g__law_take, g_len⟩ := nm_llaid
  refine ⟨_, (C8.pss_cut (ps_p3 (i := 2) (j := 3) (l := 4) rfl nd rfl rfl rfl (by decide) (by decide) (by decide) rfl rfl rfl (pa_cons (pe_op (k_mul hg) pe_str (pcl c_law_take hg (by omega) g__law_take pass0 (pa_cons (ps 0 v0) (pa_cons pe_int pa_nil)))) (pa_cons (pe_lst pa_nil) (pa_cons pe_str pa_nil))) (by rfl))
    (pss_cons (ps_for PassesOwn.never rfl (pi_l hg (ps 1 v1)) (pgn (i := 5) nd l5)
    (C8.pss_cut (ps_setLc (i := 6) (own := [("_law_own", 8)]) rfl nd rfl rfl (sw_true rfl rfl rfl (by decide +kernel)) (pi_l hg (pe_lst (pa_cons (ps 4 v4) (pa_cons (ps 5 v5) pa_nil)))) (blkOk_by (N := n_llaid) (sc := defScope s_llaid) (by decide +kernel)) (fun _ _ _ _ _ => (pg_name (i := 8) nd rfl (by first | exact .inl rfl | exact .inr rfl))) (fun _ _ _ _ _ => (pts_one (pt_cm (WO.ok hg.blk) (psr 8) (pe_lst (pa_cons pe_str (pa_cons pe_str (pa_cons pe_str (pa_cons pe_str (pa_cons pe_str (pa_cons pe_str (pa_cons pe_str (pa_cons pe_str (pa_cons pe_str pa_nil)))))))))) (by with_unfolding_all rfl)))) (fun _ _ _ _ _ => (psr 8)))
    (C8.pss_cut (pst (i := 7) nd l7 (pe_ifB (pt_cm (k_ne hg) (ps 6 v6) (pe_lst pa_nil) (nomark _)) (pcl c_law_take hg (by omega) g__law_take pass0 (pa_cons (ps 0 v0) (pa_cons pe_int pa_nil))) (pe_op (k_add hg) pe_int (pcl c_law_take hg (by omega) g__law_take pass0 (pa_cons (ps 0 v0) (pa_cons pe_int pa_nil))))))
    (C8.pss_cut (pst (i := 2) nd l2 (pe_op (k_add hg) (ps 2 v2) (pe_op (k_mul hg) pe_str (ps 7 v7))))
    (C8.pss_cut (ps_expr (pe_bmK hg PySem.F.plainAttrs_list PySem.F.slot_list_append PySem.F.type_list_append mt_append (ps 3 v3) (pa_cons (pcb (k_len hg) g_len T.n_len bt_len (pa_cons (ps 2 v2) pa_nil)) pa_nil)))
    (pss_one (ps_p2 (i := 2) (j := 4) rfl nd rfl rfl (by decide) rfl rfl (pa_cons (pe_op (k_add hg) (ps 2 v2) (ps 5 v5)) (pa_cons (ps 5 v5) pa_nil)) (by rfl))))))))
    (pss_one (ps_ret (pe_tup (pa_cons (pe_op (k_add hg) (ps 2 v2) (pe_op (k_mul hg) pe_str (pcl c_law_take hg (by omega) g__law_take pass0 (pa_cons (ps 0 v0) (pa_cons pe_int pa_nil))))) (pa_cons (ps 3 v3) pa_nil))))))), ?_⟩
  refine st_start (σ := [some _, some _, none, none, none, none, none, none, none]) rfl ?_
  walk_at "dn"
  have e32 : Str.ofString " " = (⟨#[32]⟩ : Str) := by decide +kernel
  have nbx : ∀ {H : Hp} {j : Nat} {p : Addr}, Box b j H → H p = none → p ≠ b := fun hbx hp z => by
    obtain ⟨xs, e⟩ := hbx.cell
    rw [z, e] at hp; cases hp
  have hln := hy.len
  refine ⟨fun σ' H' => ∃ (lp : Addr) (e : Nat), σ' = [some (.ref b), some (.ref ls), some (.str (tx (txtB [] e))), some (.ref lp), some (.str (tx (wd "("))), none, none, none, none] ∧ e ≤ 2 ∧ Fr [b] H H' ∧ Box b (m + 599) H' ∧ H lp = none ∧ lp ≠ b ∧ H' lp = some (.lst []), ?_, ?_⟩
  · refine ⟨b, 3, m + 599, rfl, by omega, by omega, hb.less (by omega), fun r H1 r0 r1 f1 b1 => ?_⟩
    obtain ⟨e, rfl, he⟩ : ∃ e : Nat, r = e ∧ e ≤ 2 := ⟨r.toNat, by omega, by omega⟩
    rw [e32]
    refine wo_mul1 (by omega) ?_
    refine ⟨szl (by simp only [List.length_nil]; omega), fun lp hlp => ?_⟩
    have hl0 : H lp = none := by
      cases c : H lp with
      | none => rfl
      | some o =>
        by_cases z : lp = b
        · exact absurd z (nbx b1 hlp)
        · have := f1 lp o (fun w => z (List.mem_singleton.mp w)) c
          rw [hlp] at this; cases this
    refine ⟨lp, e, ?_, he, f1.trans (Fr.of (Same.mk hlp)), b1.same (Same.mk hlp), hl0, nbx b1 hlp, upd_same⟩
    rfl
  rintro σ' H1 ⟨lp, e0, rfl, he0, f1, b1, hl0, nlp, hlp⟩
  walk_at "dn"
  refine ⟨ls, rfl, ⟨_, f1.sql (SqL.of hls) (fun z => hne (List.mem_singleton.mp z))⟩, ?_⟩
  refine lp_list (xs := sL ss) (fun i σ H' => ∃ (ps : List (Nat × List Nat)) (e : Nat) (u : List Nat) (c5 c6 c7 : Option V), σ = [some (.ref b), some (.ref ls), some (.str (tx (txtB ps e))), some (.ref lp), some (.str (tx u)), c5, c6, c7, none] ∧ Fr [b] H H' ∧ Box b (m + (599 - i)) H' ∧ H' lp = some (.lst ((plS 0 ps).map fun x => V.int (x.2 : Nat))) ∧ ps.map Prod.snd = ss.take i ∧ OkL ps ∧ (txtB ps e).length ≤ 3 + 110 * i ∧ (∀ m0 v, ps.getLast? = some (m0, v) → v = u) ∧ (ps = [] → sg1 u = true))
    ⟨[], e0, wd "(", _, _, _, rfl, f1, b1, hlp, rfl, trivial, by show (List.replicate e0 32).length ≤ _; rw [List.length_replicate]; omega, (fun _ _ z => nomatch z), fun _ => by decide +kernel⟩ (fun i σ H' _ ⟨_, _, _, _, _, _, _, f, _⟩ => f.sql (SqL.of hls) (fun z => hne (List.mem_singleton.mp z))) ?_ ?_
  · rintro i x σ H2 hx ⟨ps, e, u, c5, c6, c7, rfl, f2, b2, hp2, hps, ok, hlen, hlast, hnil⟩
    unfold sL at hx
    rw [List.getElem?_map] at hx
    obtain ⟨v, hv, rfl⟩ := Option.map_eq_some_iff.mp hx
    have hi := (List.getElem?_eq_some_iff.mp hv).1
    obtain ⟨hv1, hv2⟩ := hy.ok v (List.mem_of_getElem? hv)
    walk_at "dn"
    refine ⟨fun σ' H' => ∃ (pn : Addr), σ' = [some (.ref b), some (.ref ls), some (.str (tx (txtB ps e))), some (.ref lp), some (.str (tx u)), some (.str (tx v)), some (.ref pn), c7, none] ∧ Same H2 H' ∧ H' pn = some (.lst (sL ([u, v].filter fun s => decide (s ∈ ones)))), ?_, ?_⟩
    · refine ⟨szl (by simp only [List.length_cons, List.length_nil]; omega), fun p hp => ⟨p, rfl, ⟨_, SqL.of upd_same⟩, fun D hD => ?_⟩⟩
      have s3 := Same.mk (o := .lst [.str (tx u), .str (tx v)]) hp
      have s4 := Same.mk (o := .lst []) hD
      refine lq_it (walk_list (xs := sL [u, v])) (fun j acc H' => acc = sL (([u, v].take j).filter fun s => decide (s ∈ ones)) ∧ Same H2 H' ∧ H' D = some (.lst acc) ∧ H' p = some (.lst (sL [u, v]))) ⟨rfl, s3.trans s4, upd_same, s4 _ _ upd_same⟩ (fun _ _ H' _ ⟨_, _, _, h⟩ => SqL.of h) ?_ ?_
      · rintro j y acc H4 H5 hj hl2 ⟨rfl, s5, hD5, hp5⟩ ⟨rfl, hy5⟩
        unfold sL at hy5
        rw [List.getElem?_map] at hy5
        obtain ⟨z, hz, rfl⟩ := Option.map_eq_some_iff.mp hy5
        simp only [wipe, List.map_cons, List.map_nil, List.foldl_cons, List.foldl_nil, List.set_cons_succ, List.set_cons_zero]
        walk_at "dn"
        refine ⟨rfl, szl (by simp only [List.length_cons, List.length_nil]; omega), fun p1 hp1 => ?_⟩
        have s6 := Same.mk (o := .lst ([Str.ofString "(", Str.ofString ")", Str.ofString "[", Str.ofString "]", Str.ofString ",", Str.ofString "|", Str.ofString "&", Str.ofString "^", Str.ofString "~"].map V.str)) hp1
        refine wo_inS (xs := [Str.ofString "(", Str.ofString ")", Str.ofString "[", Str.ofString "]", Str.ofString ",", Str.ofString "|", Str.ofString "&", Str.ofString "^", Str.ofString "~"]) (.inl (SqL.of upd_same)) ?_
        walk_at "di"
        have em : [Str.ofString "(", Str.ofString ")", Str.ofString "[", Str.ofString "]", Str.ofString ",", Str.ofString "|", Str.ofString "&", Str.ofString "^", Str.ofString "~"] = ones.map tx := by decide +kernel
        have hm : tx z ∈ [Str.ofString "(", Str.ofString ")", Str.ofString "[", Str.ofString "]", Str.ofString ",", Str.ofString "|", Str.ofString "&", Str.ofString "^", Str.ofString "~"] ↔ z ∈ ones := by
          rw [em]
          exact ⟨fun w => by
            obtain ⟨t, ht, e⟩ := List.mem_map.mp w
            rw [← tx_inj e]; exact ht, fun w => List.mem_map.mpr ⟨z, w, rfl⟩⟩
        have ef : ([u, v].take (j + 1)).filter (fun s => decide (s ∈ ones)) = ([u, v].take j).filter (fun s => decide (s ∈ ones)) ++ (if z ∈ ones then [z] else []) := by
          rw [List.take_succ, hz, List.filter_append]
          congr 1
          by_cases c : z ∈ ones <;> simp [c]
        have lf : ∀ j, (sL (([u, v].take j).filter fun s => decide (s ∈ ones))).length ≤ j := fun j => by
          unfold sL
          rw [List.length_map]
          exact Nat.le_trans (List.length_filter_le _ _) (by rw [List.length_take]; omega)
        have nDp : p ≠ D := fun w => by rw [← w, upd_same] at hD; cases hD
        have nD2 : H2 D = none := by
          cases c : H2 D with
          | none => rfl
          | some o => have := s3 _ _ c; rw [hD] at this; cases this
        refine br_d (fun c => ?_) fun c => ?_
        · rw [if_pos (hm.mp c)] at ef
          refine ⟨_, s6 _ _ hD5, lt_size (by have := lf j; have : j < 2 := hj; omega), _, lf (j + 1), rfl, fun a o h => ?_, ?_, ?_⟩
          · have ha : a ≠ D := fun w => by rw [w, nD2] at h; cases h
            rw [upd_ne ha]
            exact s6 _ _ (s5 _ _ h)
          · rw [upd_same, ef]
            unfold sL
            rw [List.map_append]
            rfl
          · rw [upd_ne nDp]
            exact s6 _ _ hp5
        · rw [if_neg (fun w => c (hm.mpr w)), List.append_nil] at ef
          exact ⟨_, lf (j + 1), rfl, s5.trans s6, by rw [ef]; exact s6 _ _ hD5, s6 _ _ hp5⟩
      · rintro acc H4 hl2 ⟨rfl, s5, hD5, hp5⟩
        exact ⟨D, rfl, s5, hD5⟩
    rintro σ' H3 ⟨pn, rfl, s3, hpn⟩
    walk_at "dn"
    have f3 := f2.trans (Fr.of s3)
    have b3 := b2.same s3
    refine ⟨fun σ' H' => ∃ (pn : Addr) (r : Nat), σ' = [some (.ref b), some (.ref ls), some (.str (tx (txtB ps e))), some (.ref lp), some (.str (tx u)), some (.str (tx v)), some (.ref pn), some (.int r), none] ∧ Fr [b] H H' ∧ Box b (m + (599 - (i + 1))) H' ∧ H' lp = some (.lst ((plS 0 ps).map fun x => V.int (x.2 : Nat))) ∧ r ≤ 2 ∧ (r = 0 → sg1 u = true ∨ sg1 v = true), ?_, ?_⟩
    · refine ⟨szl (by simp only [List.length_nil]; omega), fun p hp => ?_⟩
      have s4 := Same.mk (o := .lst []) hp
      have hz : ∀ z ∈ [u, v].filter (fun s => decide (s ∈ ones)), z ∈ ones ∧ (z = u ∨ z = v) := fun z h => by
        have h1 := List.mem_filter.mp h
        exact ⟨of_decide_eq_true h1.2, by simpa using h1.1⟩
      generalize [u, v].filter (fun s => decide (s ∈ ones)) = nl at hpn hz
      have e1 : sL nl = (nl.map tx).map V.str := by unfold sL; rw [List.map_map]; rfl
      rw [e1] at hpn
      have key : ∀ z ∈ ones, (PyData.str (tx z)).canLay0 = true := by decide +kernel
      refine wo_neD (d := .list ((nl.map tx).map PyData.str)) (e := .list []) (.lst (SqL.of (s4 _ _ hpn)) (dp_strs _)) (.lst (SqL.of upd_same) .nil) (shaped_of ?_ ?_) rfl ?_
      · simp only [PyData.canLay0]
        refine canAll fun d hd => ?_
        obtain ⟨t, ht, rfl⟩ := List.mem_map.mp hd
        obtain ⟨z, hz2, rfl⟩ := List.mem_map.mp ht
        exact key z (hz z hz2).1
      · simp only [PyData.depth]
        have := depAll (ds := (nl.map tx).map PyData.str) (n := 1) fun d hd => by
          obtain ⟨t, _, rfl⟩ := List.mem_map.mp hd
          simp [PyData.depth]
        omega
      have ee : (!PyData.eqv (.list ((nl.map tx).map PyData.str)) (.list [])) = decide (nl ≠ []) := by
        cases nl with
        | nil => rfl
        | cons _ _ => rfl
      rw [ee]
      walk_at "di"
      have hp4 := (s3.trans s4) _ _ hp2
      refine br_d (fun c => ?_) fun c => ?_
      · refine ⟨b, 3, m + (599 - (i + 1)), rfl, by omega, by omega, (b3.same s4).less (by omega), fun r H5 r0 r1 f5 b5 => ?_⟩
        obtain ⟨w, rfl, hw⟩ : ∃ w : Nat, r = w ∧ w ≤ 2 := ⟨r.toNat, by omega, by omega⟩
        refine ⟨pn, w, rfl, (f3.trans (Fr.of s4)).trans f5, b5, f5 _ _ (fun z => nlp (List.mem_singleton.mp z)) hp4, hw, fun _ => ?_⟩
        obtain ⟨z, hzm⟩ := List.exists_mem_of_ne_nil nl c
        obtain ⟨z1, z2⟩ := hz z hzm
        rcases z2 with rfl | rfl
        · exact .inl (ones_sg z1)
        · exact .inr (ones_sg z1)
      · refine ⟨b, 2, m + (599 - (i + 1)), rfl, by omega, by omega, (b3.same s4).less (by omega), fun r H5 r0 r1 f5 b5 => ?_⟩
        walk_at "di"
        obtain ⟨w, hwe, hw, hw1⟩ : ∃ w : Nat, 1 + r = w ∧ w ≤ 2 ∧ 1 ≤ w := ⟨(1 + r).toNat, by omega, by omega, by omega⟩
        rw [hwe]
        exact ⟨pn, w, rfl, (f3.trans (Fr.of s4)).trans f5, b5, f5 _ _ (fun z => nlp (List.mem_singleton.mp z)) hp4, hw, fun z => by omega⟩
    clear s3 hpn f3 b3 f2 b2 hp2
    rintro σ' H3 ⟨pn, r, rfl, f3, b3, hp3, hr, hr0⟩
    walk_at "dn"
    have hl5 : (txtB ps (e + r)).length ≤ 5 + 110 * i := by rw [← txtB_bl, List.length_append, List.length_replicate]; omega
    refine ⟨fun σ' H' => σ' = [some (.ref b), some (.ref ls), some (.str (tx (txtB ps (e + r)))), some (.ref lp), some (.str (tx u)), some (.str (tx v)), some (.ref pn), some (.int r), none] ∧ H' = H3, ?_, ?_⟩
    · rw [e32]
      refine wo_mul1 (by omega) ?_
      refine add_tx (by rw [List.length_replicate]; omega) ?_
      rw [txtB_bl]
      exact ⟨rfl, rfl⟩
    rintro σ' H3 ⟨rfl, rfl⟩
    walk_at "dn"
    have hpl : (plS 0 ps).length = ps.length := by
      have := congrArg List.length (plS_map ps 0)
      rw [List.length_map, List.length_map] at this
      exact this
    have hpl2 : ps.length ≤ i := by
      have := congrArg List.length hps
      rw [List.length_map, List.length_take] at this
      omega
    refine ⟨fun σ' H' => σ' = [some (.ref b), some (.ref ls), some (.str (tx (txtB ps (e + r)))), some (.ref lp), some (.str (tx u)), some (.str (tx v)), some (.ref pn), some (.int r), none] ∧ H' = upd H3 lp (.lst ((plS 0 ps).map (fun x => V.int (x.2 : Nat)) ++ [.int ((txtB ps (e + r)).length : Nat)])), ?_, ?_⟩
    · refine ⟨ty_l (SqL.of hp3), by rw [tx_len]; exact szl (by omega), ?_⟩
      rw [tx_len]
      exact ⟨lp, _, _, rfl, rfl, hp3, lt_size (by rw [List.length_map]; omega), rfl, rfl⟩
    rintro σ' H4 ⟨rfl, rfl⟩
    walk_at "dn"
    refine ⟨by rw [tx_len, tx_len]; exact szl (by omega), ?_⟩
    rw [tx_app, txtB_put]
    refine ⟨ps ++ [(e + r, v)], 0, v, _, _, _, rfl, fun x o hx h => ?_, ?_, ?_, ?_, ?_, ?_, ?_, ?_⟩
    · rw [upd_ne (fun z => by rw [z, hl0] at h; cases h)]
      exact f3 x o hx h
    · obtain ⟨i1, j1, k1, e1, r1⟩ := b3
      exact ⟨i1, j1, k1, by rw [upd_ne (fun z => nlp z.symm)]; exact e1, r1⟩
    · rw [upd_same, plS_put, List.map_append, Nat.zero_add]
      rfl
    · rw [List.map_append, hps, List.take_succ, hv]
      rfl
    · refine okL_put ok hv1 fun m0 w hw hsg hn0 => ?_
      have hwu := hlast m0 w hw
      rw [hwu] at hsg
      rcases hr0 (by omega) with z | z
      · rw [hsg] at z; cases z
      · exact z
    · rw [← txtB_put, List.length_append]
      omega
    · intro m0 w hw
      rw [List.getLast?_append] at hw
      simp at hw
      exact hw.2.symm
    · intro z
      simp at z
  · rintro σ H2 ⟨ps, e, u, c5, c6, c7, rfl, f2, b2, hp2, hps, ok, hlen, hlast, hnil⟩
    walk_at "dn"
    have hL : (sL ss).length = ss.length := by unfold sL; rw [List.length_map]
    rw [hL] at b2 hps hlen
    rw [List.take_length] at hps
    refine ⟨b, 2, m, rfl, by omega, by omega, b2.less (by omega), fun r H3 r0 r1 f3 b3 => ?_⟩
    obtain ⟨w, rfl, hw⟩ : ∃ w : Nat, r = w ∧ w ≤ 1 := ⟨r.toNat, by omega, by omega⟩
    rw [e32]
    refine wo_mul1 (by omega) ?_
    refine add_tx (by rw [List.length_replicate]; omega) ?_
    rw [txtB_bl]
    have hl3 : (txtB ps (e + w)).length ≤ 60000 := by rw [← txtB_bl, List.length_append, List.length_replicate]; omega
    exact ⟨szl (by simp only [List.length_cons, List.length_nil]; omega), fun T hT => q T lp ps (e + w) _ ((f2.trans f3).trans (Fr.of (Same.mk hT))) (b3.same (Same.mk hT)) (SqT.of upd_same) (Same.mk hT _ _ (f3 _ _ (fun z => nlp (List.mem_singleton.mp z)) hp2)) hps ok hl3⟩
def Wop (c : Nat) : Nat := if c = 40 ∨ c = 91 then 1 else 0
theorem wop_let {s : List Nat} (h : ∀ c ∈ s, isL c = true) : sumW Wop s = 0 := by
  induction s with
  | nil => rfl
  | cons c r ih =>
    have hc : 97 ≤ c ∧ c ≤ 122 := of_decide_eq_true (h c (.head _))
    rw [sumW_cons, ih fun x hx => h x (.tail _ hx)]
    unfold Wop
    rw [if_neg (by omega)]
theorem wop_sy {s : List Nat} (h : LSy s) : sumW Wop s = if s = wd "(" ∨ s = wd "[" then 1 else 0 := by
  have e1 : wd "(" = [40] := by decide +kernel
  have e2 : wd "[" = [91] := by decide +kernel
  rcases h with h | h
  · cases h with
    | @sgn c h =>
      rw [sumW_cons, sumW_nil, Nat.add_zero, e1, e2]
      unfold Wop
      simp
    | go => decide +kernel
    | word h1 h2 h3 =>
      rw [wop_let h3, if_neg]
      rw [e1, e2]
      rintro (z | z) <;> (rw [z] at h3; have := h3 _ (.head _); revert this; decide)
    | @step c r hc h1 h2 h3 =>
      rw [sumW_cons, wop_let h3, if_neg]
      · unfold Wop
        rw [if_neg (by omega)]
      · rw [e1, e2]
        rintro (z | z) <;> (cases z; simp at hc)
  · have key : ∀ s ∈ bads, sumW Wop s = if s = wd "(" ∨ s = wd "[" then 1 else 0 := by decide +kernel
    exact key s h
/-- a laid text opens the brackets of its symbols -/
theorem laid_sum : ∀ (ps : List (Nat × List Nat)) (e : Nat), (∀ s ∈ ps.map Prod.snd, LSy s) → sumW Wop (txtB ps e) = opens (ps.map Prod.snd)
  | [], e, _ => by
    show sumW Wop (List.replicate e 32) = 0
    induction e with
    | zero => rfl
    | succ e ih => rw [List.replicate_succ, sumW_cons, ih]; rfl
  | (n, s) :: r, e, h => by
    have hz : ∀ n, sumW Wop (List.replicate n 32) = 0 := fun n => by
      induction n with
      | zero => rfl
      | succ n ih => rw [List.replicate_succ, sumW_cons, ih]; rfl
    show sumW Wop (List.replicate n 32 ++ (s ++ txtB r e)) = opens (s :: r.map Prod.snd)
    rw [sumW_app, sumW_app, hz, wop_sy (h s (.head _)), laid_sum r e (fun x hx => h x (.tail _ hx)), opens_1]
    omega
/-- so it is read, or refused -/
theorem laid_tot {o : Nat} {a : Bool} {ps : List (Nat × List Nat)} {e : Nat} (h : ∀ s ∈ ps.map Prod.snd, LSy s) (ho : opens (ps.map Prod.snd) < o) : readT o a (txtB ps e) ≠ none := readT_tot (by
  have := laid_sum ps e h
  have e1 : sumW (fun c => if c = 40 ∨ c = 91 then 1 else 0) (txtB ps e) = sumW Wop (txtB ps e) := rfl
  omega)
/-- where a reading ends: none if it does not, else its place -/
def atR (r : Option Rs) : Option V := match r with
  | none => none
  | some (.ok _ _) => some .non
  | some (.bad n) => some (.int n)
theorem RtA_of {r : Option Rs} {v : V} {H : Hp} {Q : VK} (h : atR r = some v) (q : ∀ H', Same H H' → Q v H') : RtA r H Q := by
  rcases r with _ | ⟨t, l⟩ | n
  · cases h
  · cases h; exact q
  · cases h; exact q
def atB (o : Nat) (a : Bool) (s : String) (v : Option Nat) : Bool := match readT o a (wd s), v with
  | some (.ok _ _), none => true
  | some (.bad n), some m => n == m
  | _, _ => false
theorem atB_ok {o : Nat} {a : Bool} {s : String} {v : Option Nat} (h : atB o a s v = true) : atR (readT o a (wd s)) = some (resV v) := by
  unfold atB at h
  split at h
  · rename_i e; rw [e]; rfl
  · rename_i e
    rw [e]
    have := eq_of_beq h
    subst this
    rfl
  · cases h
theorem hand48 : (([("+c >> ", some 6), ("+c > -d", some 3), ("[+c] here", some 1), ("", some 0), ("  ", some 2), ("+c found", some 3), ("(here", some 5), ("here)", some 4), ("+abcdefghi", some 0), ("here | abcdefghi", some 7), ("[~found(+c)]-c", none), ("+ c", some 0)] : List (String × Option Nat)).all fun x => atB 34 false x.1 x.2) = true ∧
    (([("found(+c), )", some 9), ("~(always", some 8), ("marked(+c)", some 7), ("always(", some 6), ("same(+a)", some 7), ("found(-abcdefgh)", none)] : List (String × Option Nat)).all fun x => atB 34 true x.1 x.2) = true := by decide +kernel
theorem ofs2 (s : String) : Str.ofString s = tx (wd s) := (tx_of _).symm
theorem at_all {Γ : Gm} {H1 : Hp} {Q : VK} {p D : Addr} {asks : Bool} {a b c : Option V} (l : List (String × Option Nat)) (hl : l.length ≤ 100) (hv : (l.all fun x => atB 34 asks x.1 x.2) = true) (hw : (l.all fun x => decide ((wd x.1).length < 1000)) = true) (hp : SqL Γ.K H1 p (l.map fun x => V.str (Str.ofString x.1))) (hD : H1 D = none)
    (q : ∀ H2, Same H1 H2 → H2 D = some (.lst (l.map fun x => resV x.2)) → Q (.ref D) H2) : LQ (Itl Γ.K p) (gName 2) tYes (tCall (spLAt 34) [] E0 (tCons (tS 2) (tCons (tC (V.bl asks)) tNil))) (List.map (fun x : Str × Nat => x.snd) [(Str.ofString "_law_own", 2)]) [a, b, c] D Q H1 := by
  have sD := Same.mk (o := .lst []) hD
  refine lq_it (walk_list (xs := l.map fun x => V.str (Str.ofString x.1))) (fun j acc H' => acc = (l.take j).map (fun x => resV x.2) ∧ Same H1 H' ∧ H' D = some (.lst acc)) ⟨rfl, sD, upd_same⟩ (fun _ _ H' _ ⟨_, s, _⟩ => (Fr.of (S := []) s).sql hp List.not_mem_nil) ?_ ?_
  · rintro j x acc H3 H4 hj hl2 ⟨rfl, s3, hD3⟩ ⟨rfl, hx⟩
    rw [List.getElem?_map] at hx
    obtain ⟨y, hy, rfl⟩ := Option.map_eq_some_iff.mp hx
    have hm := List.mem_of_getElem? hy
    have h1 := atB_ok (List.all_eq_true.mp hv y hm)
    have h2 := of_decide_eq_true (List.all_eq_true.mp hw y hm)
    simp only [wipe, List.map_cons, List.map_nil, List.foldl_cons, List.foldl_nil, List.set_cons_succ, List.set_cons_zero]
    walk_at "dn"
    refine ⟨rfl, wd y.1, asks, by rw [ofs2], by omega, RtA_of h1 fun H5 s5 => ?_⟩
    refine ⟨_, s5 _ _ hD3, lt_size (by rw [List.length_map, List.length_take]; omega), _, ?_, ?_, ?_, upd_same⟩
    · rw [List.length_append, List.length_map, List.length_take, List.length_singleton]; omega
    · rw [List.take_succ, hy, List.map_append]
      rfl
    · intro z o e
      have hz : z ≠ D := fun w => by rw [w, hD] at e; cases e
      rw [upd_ne hz]
      exact s5 _ _ (s3 _ _ e)
  · rintro acc H3 hl2 ⟨rfl, s3, hD3⟩
    rw [List.length_map, List.take_length] at hD3
    exact q H3 s3 hD3
abbrev s_lhand48 : Stmt := topS 55
abbrev n_lhand48 : List Str := ["_law_goods_so", "_law_got_so", "_law_own"]
theorem sc_lhand48 : FnScope n_lhand48 [] (defScope s_lhand48) := ⟨rfl, rfl, rfl, by decide +kernel, rfl, by decide +kernel, by decide +kernel⟩
theorem nm_lhand48 : nvB n_lhand48 (defScope s_lhand48) 0 "_law_goods_so" = true ∧ nvB n_lhand48 (defScope s_lhand48) 1 "_law_got_so" = true ∧ lvB n_lhand48 (defScope s_lhand48) 0 "_law_goods_so" = true ∧ lvB n_lhand48 (defScope s_lhand48) 1 "_law_got_so" = true ∧ gvB (defScope s_lhand48) "_law_at" = true ∧ gvB (defScope s_lhand48) "_law_same" = true := by decide +kernel
theorem cl_lhand48 {Γ : Gm} (dfn : Dfn Γ "_law_by_hand_right" s_lhand48 []) (T : Names Γ) (c_law_at : Cl Γ CX0 211 "_law_at" (spLAt 34) []) (c_law_same : Cl Γ CX0 21 "_law_same" (spSame Γ.K 20) []) : Cl Γ CX0 (212) "_law_by_hand_right" spHandR [] := by
  refine dfn.cl sc_lhand48 (fun vs H Q E h => ?_) (fun f cdv A outer s H vs Q E hg h => ?_)
  · obtain ⟨rfl, _⟩ := h
    rfl
  obtain ⟨rfl, q⟩ := h
  have nd := sc_lhand48.nd
  obtain ⟨v0, v1, l0, l1, g__law_at, g__law_same⟩ := nm_lhand48
  refine ⟨_, (C8.pss_cut (pst (i := 0) nd l0 (pe_lst (pa_cons pe_str (pa_cons pe_str (pa_cons pe_str (pa_cons pe_str (pa_cons pe_str (pa_cons pe_str (pa_cons pe_str (pa_cons pe_str pa_nil))))))))))
    (C8.pss_cut (ps_setLc (i := 1) (own := [("_law_own", 2)]) rfl nd rfl rfl (sw_true rfl rfl rfl (by decide +kernel)) (pi_l hg (ps 0 v0)) (blkOk_by (N := n_lhand48) (sc := defScope s_lhand48) (by decide +kernel)) (fun _ _ _ _ _ => (pg_name (i := 2) nd rfl (by first | exact .inl rfl | exact .inr rfl))) (fun _ _ _ _ _ => pts_nil) (fun _ _ _ _ _ => (pcl c_law_at hg.blk (by omega) (by rfl) pass0 (pa_cons (psr 2) (pa_cons pe_bl pa_nil)))))
    (C8.pss_cut (pst (i := 1) nd l1 (pe_op (k_add hg) (ps 1 v1) (pe_lc (own := [("_law_own", 2)]) rfl nd (pi_l hg (pe_lst (pa_cons pe_str (pa_cons pe_str (pa_cons pe_str (pa_cons pe_str (pa_cons pe_str pa_nil))))))) (blkOk_by (N := n_lhand48) (sc := defScope s_lhand48) (by decide +kernel)) (fun _ _ _ _ _ => (pg_name (i := 2) nd rfl (by first | exact .inl rfl | exact .inr rfl))) (fun _ _ _ _ _ => pts_nil) (fun _ _ _ _ _ => (pcl c_law_at hg.blk (by omega) (by rfl) pass0 (pa_cons (psr 2) (pa_cons pe_bl pa_nil)))))))
    (C8.pss_cut (ps_ifB (pt_not (pt_tr hg (pcl c_law_same hg (by omega) g__law_same pass0 (pa_cons (ps 1 v1) (pa_cons (pe_lst (pa_cons pe_int (pa_cons pe_int (pa_cons pe_int (pa_cons pe_int (pa_cons pe_int (pa_cons pe_int (pa_cons pe_int (pa_cons pe_int (pa_cons pe_int (pa_cons pe_int (pa_cons pe_int (pa_cons pe_int (pa_cons pe_int pa_nil)))))))))))))) pa_nil)))))
    (pss_one (ps_ret pe_bl))
    pss_nil)
    (C8.pss_cut (pst (i := 0) nd l0 (pe_lst (pa_cons pe_str (pa_cons pe_str (pa_cons pe_str (pa_cons pe_str pa_nil))))))
    (C8.pss_cut (pst (i := 1) nd l1 (pe_op (k_add hg) (pe_lc (own := [("_law_own", 2)]) rfl nd (pi_l hg (ps 0 v0)) (blkOk_by (N := n_lhand48) (sc := defScope s_lhand48) (by decide +kernel)) (fun _ _ _ _ _ => (pg_name (i := 2) nd rfl (by first | exact .inl rfl | exact .inr rfl))) (fun _ _ _ _ _ => pts_nil) (fun _ _ _ _ _ => (pcl c_law_at hg.blk (by omega) (by rfl) pass0 (pa_cons (psr 2) (pa_cons pe_bl pa_nil))))) (pe_lst (pa_cons (pcl c_law_at hg (by omega) g__law_at pass0 (pa_cons pe_str (pa_cons pe_bl pa_nil))) pa_nil))))
    (pss_one (ps_ret (pcl c_law_same hg (by omega) g__law_same pass0 (pa_cons (ps 1 v1) (pa_cons (pe_lst (pa_cons pe_int (pa_cons pe_int (pa_cons pe_non (pa_cons pe_int (pa_cons pe_non pa_nil)))))) pa_nil))))))))))), ?_⟩
  refine st_start (σ := [none, none, none]) rfl ?_
  walk_at "dn"
  refine ⟨fun σ' H' => ∃ p : Addr, σ' = [some (.ref p), none, none] ∧ Same H H' ∧ H' p = some (.lst (([("+c >> ", some 6), ("+c > -d", some 3), ("[+c] here", some 1), ("", some 0), ("  ", some 2), ("+c found", some 3), ("(here", some 5), ("here)", some 4)] : List (String × Option Nat)).map fun x => V.str (Str.ofString x.1))), ?_, ?_⟩
  · exact ⟨szl (by simp only [List.length_cons, List.length_nil]; omega), fun p hp => ⟨p, rfl, Same.mk hp, upd_same⟩⟩
  rintro σ' H1 ⟨p, rfl, s1, hp⟩
  walk_at "dn"
  refine ⟨fun σ' H' => ∃ D : Addr, σ' = [some (.ref p), some (.ref D), none] ∧ Same H H' ∧ H' D = some (.lst (([("+c >> ", some 6), ("+c > -d", some 3), ("[+c] here", some 1), ("", some 0), ("  ", some 2), ("+c found", some 3), ("(here", some 5), ("here)", some 4)] : List (String × Option Nat)).map fun x => resV x.2)), ?_, ?_⟩
  · refine ⟨p, rfl, ⟨_, SqL.of hp⟩, fun D hD => ?_⟩
    exact at_all (asks := false) _ (by decide) (by decide +kernel) (by decide +kernel) (SqL.of hp) hD fun H2 s2 h2 => ⟨D, rfl, s1.trans s2, h2⟩
  rintro σ' H2 ⟨D, rfl, s2, hD⟩
  walk_at "dn"
  refine ⟨fun σ' H' => ∃ D : Addr, σ' = [some (.ref p), some (.ref D), none] ∧ Same H H' ∧ H' D = some (.lst [.int 6, .int 3, .int 1, .int 0, .int 2, .int 3, .int 5, .int 4, .int 9, .int 8, .int 7, .int 6, .int 7]), ?_, ?_⟩
  · refine ⟨szl (by simp only [List.length_cons, List.length_nil]; omega), fun p2 hp2 => ⟨p2, rfl, ⟨_, SqL.of upd_same⟩, fun D2 hD2 => ?_⟩⟩
    have s3 := Same.mk (o := .lst [V.str (Str.ofString "found(+c), )"), V.str (Str.ofString "~(always"), V.str (Str.ofString "marked(+c)"), V.str (Str.ofString "always("), V.str (Str.ofString "same(+a)")]) hp2
    refine at_all (asks := true) ([("found(+c), )", some 9), ("~(always", some 8), ("marked(+c)", some 7), ("always(", some 6), ("same(+a)", some 7)] : List (String × Option Nat)) (by decide) (by decide +kernel) (by decide +kernel) (SqL.of upd_same) hD2 fun H3 s4 h2 => ?_
    refine wo_cat ((s3.trans s4) _ _ hD) h2 (szl (by simp only [List.length_map, List.length_cons, List.length_nil]; omega)) fun p3 hp3 => ?_
    exact ⟨p3, rfl, ((s2.trans s3).trans s4).trans (Same.mk hp3), upd_same⟩
  rintro σ' H3 ⟨D2, rfl, s3, hD2⟩
  walk_at "dn"
  refine ⟨fun σ' H' => σ' = [some (.ref p), some (.ref D2), none] ∧ Same H H', ⟨szl (by simp only [List.length_cons, List.length_nil]; omega), fun p4 hp4 => ?_⟩, ?_⟩
  · have s4 := Same.mk (o := .lst [V.int 6, V.int 3, V.int 1, V.int 0, V.int 2, V.int 3, V.int 5, V.int 4, V.int 9, V.int 8, V.int 7, V.int 6, V.int 7]) hp4
    refine ⟨_, _, .list [.int 6, .int 3, .int 1, .int 0, .int 2, .int 3, .int 5, .int 4, .int 9, .int 8, .int 7, .int 6, .int 7], rfl, .lst (SqL.of (s4 _ _ hD2)) (.cons (.int _) (.cons (.int _) (.cons (.int _) (.cons (.int _) (.cons (.int _) (.cons (.int _) (.cons (.int _) (.cons (.int _) (.cons (.int _) (.cons (.int _) (.cons (.int _) (.cons (.int _) (.cons (.int _) .nil))))))))))))), .lst (SqL.of upd_same) (.cons (.int _) (.cons (.int _) (.cons (.int _) (.cons (.int _) (.cons (.int _) (.cons (.int _) (.cons (.int _) (.cons (.int _) (.cons (.int _) (.cons (.int _) (.cons (.int _) (.cons (.int _) (.cons (.int _) .nil))))))))))))), ?_, ?_, fun HB sB => ?_⟩
    · simp only [PyData.depth, PyData.depthAll]
      omega
    · exact ⟨by simp, trivial, trivial, trivial, trivial, trivial, trivial, trivial, trivial, trivial, trivial, trivial, trivial, trivial, trivial⟩
    walk_at "di"
    exact ⟨rfl, (s3.trans s4).trans sB⟩
  clear s3 hD2 hD s2 s1 hp
  rintro σ' H4 ⟨rfl, s4⟩
  walk_at "dn"
  refine ⟨fun σ' H' => ∃ p : Addr, σ' = [some (.ref p), some (.ref D2), none] ∧ Same H H' ∧ H' p = some (.lst (([("+abcdefghi", some 0), ("here | abcdefghi", some 7), ("[~found(+c)]-c", none), ("+ c", some 0)] : List (String × Option Nat)).map fun x => V.str (Str.ofString x.1))), ?_, ?_⟩
  · exact ⟨szl (by simp only [List.length_cons, List.length_nil]; omega), fun p hp => ⟨p, rfl, s4.trans (Same.mk hp), upd_same⟩⟩
  clear s4
  rintro σ' H5 ⟨p5, rfl, s5, hp5⟩
  walk_at "dn"
  refine ⟨fun σ' H' => ∃ D : Addr, σ' = [some (.ref p5), some (.ref D), none] ∧ Same H H' ∧ H' D = some (.lst [.int 0, .int 7, .non, .int 0, .non]), ?_, ?_⟩
  · refine ⟨p5, rfl, ⟨_, SqL.of hp5⟩, fun D hD => ?_⟩
    refine at_all (asks := false) ([("+abcdefghi", some 0), ("here | abcdefghi", some 7), ("[~found(+c)]-c", none), ("+ c", some 0)] : List (String × Option Nat)) (by decide) (by decide +kernel) (by decide +kernel) (SqL.of hp5) hD fun H6 s6 h6 => ?_
    have h7 : atB 34 true "found(-abcdefgh)" none = true := by decide +kernel
    refine ⟨wd "found(-abcdefgh)", true, by rw [ofs2], by decide +kernel, RtA_of (atB_ok h7) fun H7 s7 => ?_⟩
    refine ⟨szl (by simp only [List.length_cons, List.length_nil]; omega), fun p8 hp8 => ?_⟩
    have s8 := Same.mk (o := .lst [.non]) hp8
    refine wo_cat ((s7.trans s8) _ _ h6) upd_same (szl (by simp only [List.length_map, List.length_cons, List.length_nil]; omega)) fun p9 hp9 => ?_
    exact ⟨p9, rfl, (((s5.trans s6).trans s7).trans s8).trans (Same.mk hp9), upd_same⟩
  clear s5 hp5
  rintro σ' H6 ⟨D6, rfl, s6, hD6⟩
  walk_at "dn"
  refine ⟨szl (by simp only [List.length_cons, List.length_nil]; omega), fun p7 hp7 => ?_⟩
  have s7 := Same.mk (o := .lst [V.int 0, V.int 7, V.non, V.int 0, V.non]) hp7
  refine ⟨_, _, .list [.int 0, .int 7, .none, .int 0, .none], rfl, .lst (SqL.of (s7 _ _ hD6)) (.cons (.int _) (.cons (.int _) (.cons .non (.cons (.int _) (.cons .non .nil))))), .lst (SqL.of upd_same) (.cons (.int _) (.cons (.int _) (.cons .non (.cons (.int _) (.cons .non .nil))))), ?_, ?_, fun HB sB => ?_⟩
  · simp only [PyData.depth, PyData.depthAll]
    omega
  · exact ⟨by simp, trivial, trivial, trivial, trivial, trivial, trivial⟩
  exact q _ ((s6.trans s7).trans sB)
theorem ch_vs : ∀ {ss : List (List Nat)}, Ch ss → ∀ s ∈ ss, Vs s
  | [], _, s, h => nomatch h
  | x :: r, c, s, h => by
    cases h with
    | head => exact c.1
    | tail _ h => exact ch_vs c.2.2 s h
theorem Vs.len {s : List Nat} (h : Vs s) : s.length ≤ 9 := by
  cases h with
  | sgn _ => simp
  | go => simp
  | word _ h _ => omega
  | step _ _ h _ => rw [List.length_cons]; omega
theorem syl_tok {ks ms : List Str} {t : Tr} {a : Bool} (hk : ∀ k ∈ ks, Nm k) (hm : ∀ k ∈ ms, Nm k) (wf : t.wf ks ms a) (hb : t.brk ≤ 25) : SyL (tokB t a) 156 25 := by
  have hs := size_brk t
  obtain ⟨h1, h2⟩ := tok_size hk hm t a wf
  refine ⟨fun s hs => ?_, by omega, by have := opens_tok hm t a wf; omega⟩
  have v := ch_vs (Der.ch (tokB_der hk hm t a wf)) s hs
  have := Vs.len v
  exact ⟨.inl v, by omega⟩
def spRight48 : Sp := fun vs H Q _ => ∃ (b : Addr) (n : Nat), vs = [.ref b] ∧ Box b (n + 30000) H ∧ ∀ H', Fr [b] H H' → Box b n H' → Q (.bl true) H'
abbrev s_right48 : Stmt := topS 56
abbrev n_right48 : List Str := ["_law_box_here", "_law_turn", "_law_kinds_so", "_law_marks_so", "_law_asks", "_law_symbols_so", "_law_slip", "_law_words", "_law_places_so"]
theorem sc_right48 : FnScope n_right48 ["_law_box_here"] (defScope s_right48) := ⟨rfl, rfl, rfl, by decide +kernel, rfl, by decide +kernel, by decide +kernel⟩
theorem nm_right48 : nvB n_right48 (defScope s_right48) 0 "_law_box_here" = true ∧ nvB n_right48 (defScope s_right48) 1 "_law_turn" = true ∧ nvB n_right48 (defScope s_right48) 2 "_law_kinds_so" = true ∧ nvB n_right48 (defScope s_right48) 3 "_law_marks_so" = true ∧ nvB n_right48 (defScope s_right48) 4 "_law_asks" = true ∧ nvB n_right48 (defScope s_right48) 5 "_law_symbols_so" = true ∧ nvB n_right48 (defScope s_right48) 7 "_law_words" = true ∧ nvB n_right48 (defScope s_right48) 8 "_law_places_so" = true ∧ lvB n_right48 (defScope s_right48) 1 "_law_turn" = true ∧ lvB n_right48 (defScope s_right48) 5 "_law_symbols_so" = true ∧ lvB n_right48 (defScope s_right48) 6 "_law_slip" = true ∧ lvB n_right48 (defScope s_right48) 7 "_law_words" = true ∧ lvB n_right48 (defScope s_right48) 8 "_law_places_so" = true ∧ gvB (defScope s_right48) "_law_at" = true ∧ gvB (defScope s_right48) "_law_by_hand_right" = true ∧ gvB (defScope s_right48) "_law_laid" = true ∧ gvB (defScope s_right48) "_law_look" = true ∧ gvB (defScope s_right48) "_law_same" = true ∧ gvB (defScope s_right48) "_law_spoilt" = true ∧ gvB (defScope s_right48) "_law_symbols" = true ∧ gvB (defScope s_right48) "_law_take" = true ∧ gvB (defScope s_right48) "_law_test" = true ∧ gvB (defScope s_right48) "_law_wordy" = true ∧ gvB (defScope s_right48) "_law_wrong" = true ∧ gvB (defScope s_right48) "len" = true ∧ gvB (defScope s_right48) "range" = true := by decide +kernel
theorem cl_right48 {Γ : Gm} (dfn : Dfn Γ "_law_right" s_right48 ["_law_box_here"]) (T : Names Γ) (c_law_by_hand_right : Cl Γ CX0 212 "_law_by_hand_right" spHandR []) (c_law_take : Cl Γ CX0 1 "_law_take" spTake []) (c_law_wordy : Cl Γ CX0 6 "_law_wordy" (spLWordy Γ.K) []) (c_law_look : Cl Γ CX0 30 "_law_look" (spLook Γ.K 8) []) (c_law_test : Cl Γ CX0 30 "_law_test" (spTest Γ.K 8) []) (c_law_symbols : Cl Γ CX0 42 "_law_symbols" (spLSym Γ.K 40) []) (c_law_same : Cl Γ CX0 21 "_law_same" (spSame Γ.K 20) []) (c_law_at : Cl Γ CX0 211 "_law_at" (spLAt 34) []) (c_law_spoilt : Cl Γ CX0 3 "_law_spoilt" (spLSpoilt Γ.K) []) (c_law_laid : Cl Γ CX0 3 "_law_laid" (spLLaid Γ.K) []) (c_law_wrong : Cl Γ CX0 4 "_law_wrong" (spLWrong Γ.K) []) : Cl Γ CX0 (215) "_law_right" spRight48 [] := by
  refine dfn.cl sc_right48 (fun vs H Q E h => ?_) (fun f cdv A outer s H vs Q E hg h => ?_)
  · obtain ⟨b, n, rfl, _⟩ := h
    rfl
  obtain ⟨b, n, rfl, hb, q⟩ := h
  have nd := sc_right48.nd
  obtain ⟨v0, v1, v2, v3, v4, v5, v7, v8, l1, l5, l6, l7, l8, g__law_at, g__law_by_hand_right, g__law_laid, g__law_look, g__law_same, g__law_spoilt, g__law_symbols, g__law_take, g__law_test, g__law_wordy, g__law_wrong, g_len, g_range⟩ := nm_right48
  refine ⟨_, (C8.pss_cut (ps_ifB (pt_not (pt_tr hg (pcl0 c_law_by_hand_right hg (by omega) g__law_by_hand_right pass0)))
    (pss_one (ps_ret pe_bl))
    pss_nil)
    (pss_cons (ps_for PassesOwn.never rfl (pi_r1 g_range T.n_range (pa_cons pe_int pa_nil)) (pgn (i := 1) nd l1)
    (C8.pss_cut (ps_p3 (i := 2) (j := 3) (l := 4) rfl nd rfl rfl rfl (by decide) (by decide) (by decide) rfl rfl rfl (pa_cons (pcl c_law_wordy hg (by omega) g__law_wordy pass0 (pa_cons (ps 0 v0) (pa_cons pe_int pa_nil))) (pa_cons (pcl c_law_wordy hg (by omega) g__law_wordy pass0 (pa_cons (ps 0 v0) (pa_cons pe_int pa_nil))) (pa_cons (pe_cmpR (k_gt hg) (ps 1 v1) pe_int (nomark _)) pa_nil))) (by rfl))
    (C8.pss_cut (ps_ifB (pt_tr hg (ps 4 v4))
    (pss_one (pst (i := 5) nd l5 (pcl c_law_symbols hg (by omega) g__law_symbols pass0 (pa_cons (pcl c_law_test hg (by omega) g__law_test pass0 (pa_cons (ps 0 v0) (pa_cons (pe_op (k_add hg) pe_int (pcl c_law_take hg (by omega) g__law_take pass0 (pa_cons (ps 0 v0) (pa_cons pe_int pa_nil)))) (pa_cons (ps 2 v2) (pa_cons (ps 3 v3) (pa_cons pe_bl pa_nil)))))) (pa_cons pe_bl (pa_cons pe_int pa_nil))))))
    (pss_one (pst (i := 5) nd l5 (pcl c_law_symbols hg (by omega) g__law_symbols pass0 (pa_cons (pcl c_law_look hg (by omega) g__law_look pass0 (pa_cons (ps 0 v0) (pa_cons (pe_op (k_add hg) pe_int (pcl c_law_take hg (by omega) g__law_take pass0 (pa_cons (ps 0 v0) (pa_cons pe_int pa_nil)))) (pa_cons (ps 2 v2) (pa_cons (ps 3 v3) (pa_cons pe_bl pa_nil)))))) (pa_cons pe_bl (pa_cons pe_int pa_nil)))))))
    (C8.pss_cut (ps_for PassesOwn.never rfl (pi_r1 g_range T.n_range (pa_cons (pcl c_law_take hg (by omega) g__law_take pass0 (pa_cons (ps 0 v0) (pa_cons pe_int pa_nil))) pa_nil)) (pgn (i := 6) nd l6)
    (pss_one (pst (i := 5) nd l5 (pcl c_law_spoilt hg (by omega) g__law_spoilt pass0 (pa_cons (ps 0 v0) (pa_cons (ps 5 v5) pa_nil))))))
    (C8.pss_cut (ps_asg (pcl c_law_laid hg (by omega) g__law_laid pass0 (pa_cons (ps 0 v0) (pa_cons (ps 5 v5) pa_nil))) (pg_tK hg 2 rfl (pgs_c (pgn (i := 7) nd l7) (pgs_c (pgn (i := 8) nd l8) pgs_0))))
    (pss_one (ps_ifB (pt_not (pt_tr hg (pcl c_law_same hg (by omega) g__law_same pass0 (pa_cons (pcl c_law_at hg (by omega) g__law_at pass0 (pa_cons (ps 7 v7) (pa_cons (ps 4 v4) pa_nil))) (pa_cons (pcl c_law_wrong hg (by omega) g__law_wrong pass0 (pa_cons (ps 5 v5) (pa_cons (ps 8 v8) (pa_cons (pcb (k_len hg) g_len T.n_len bt_len (pa_cons (ps 7 v7) pa_nil)) (pa_cons (ps 4 v4) pa_nil))))) pa_nil)))))
    (pss_one (ps_ret pe_bl))
    pss_nil)))))))
    (pss_one (ps_ret pe_bl)))), ?_⟩
  refine st_start (σ := [some _, none, none, none, none, none, none, none, none]) rfl ?_
  walk_at "dn"
  refine ⟨fun σ' H' => σ' = [some (.ref b), none, none, none, none, none, none, none, none] ∧ Same H H', ⟨rfl, fun H1 s1 => ⟨rfl, s1⟩⟩, ?_⟩
  rintro σ' H1 ⟨rfl, s1⟩
  refine ⟨12, rfl, by omega, by omega, ?_⟩
  refine lp_range (n := 12) (fun i σ H' => ∃ c1 c2 c3 c4 c5 c6 c7 c8 : Option V, σ = [some (.ref b), c1, c2, c3, c4, c5, c6, c7, c8] ∧ Fr [b] H H' ∧ Box b (n + 2500 * (12 - i)) H') ⟨_, _, _, _, _, _, _, _, rfl, Fr.of s1, (hb.same s1).less (by omega)⟩ ?_ ?_
  case refine_2 =>
    rintro σ H2 ⟨c1, c2, c3, c4, c5, c6, c7, c8, rfl, f2, b2⟩
    walk_at "dn"
    exact q H2 f2 (b2.less (by omega))
  clear hb s1
  rintro i σ H2 hi ⟨c1, c2, c3, c4, c5, c6, c7, c8, rfl, f2, b2⟩
  walk_at "dn"
  obtain ⟨M, hM, hM2⟩ : ∃ M, n + 2500 * (12 - i) = M + 2500 ∧ M = n + 2500 * (12 - (i + 1)) := ⟨n + 2500 * (12 - (i + 1)), by omega, rfl⟩
  rw [hM] at b2
  rw [← hM2]
  clear hM2 hM
  refine ⟨fun σ' H' => ∃ (kl ml : Addr) (ks ms : List Str), σ' = [some (.ref b), some (.int (0 + (i : Int))), some (.ref kl), some (.ref ml), some (.bl (decide (5 < i))), c5, c6, c7, c8] ∧ Fr [b] H H' ∧ Box b (M + 1200) H' ∧ NmL H' b kl ks ∧ NmL H' b ml ms, ?_, ?_⟩
  · refine ⟨b, M + 1900, 2, rfl, b2.less (by omega), by omega, by omega, fun kl ks H4 hkl f4 b4 hc4 hl4 nk4 => ?_⟩
    have nb4 : kl ≠ b := fun z => by
      obtain ⟨xs, e⟩ := b2.cell
      rw [z, e] at hkl; cases hkl
    refine ⟨b, M + 1200, 1, rfl, b4.less (by omega), by omega, by omega, fun ml ms H6 hml f6 b6 hc6 hl6 nm6 => ?_⟩
    have nb6 : ml ≠ b := fun z => by
      obtain ⟨xs, e⟩ := b4.cell
      rw [z, e] at hml; cases hml
    walk_at "di"
    have hk4 : NmL H4 b kl ks := ⟨hc4, nb4, by omega, nk4⟩
    have e : decide (5 < 0 + (i : Int)) = decide (5 < i) := by
      by_cases h : 5 < i
      · rw [decide_eq_true h, decide_eq_true (by omega)]
      · rw [decide_eq_false h, decide_eq_false (by omega)]
    rw [e]
    exact ⟨kl, ml, ks, ms, rfl, (f2.trans f4).trans f6, b6, hk4.fr f6, hc6, nb6, by omega, nm6⟩
  clear b2 f2
  rintro σ' H3 ⟨kl, ml, ks, ms, rfl, f3, hb3, hk3, hm3⟩
  have nk := hk3.2.2.2
  have nm := hm3.2.2.2
  generalize ha : decide (5 < i) = a
  walk_at "dn"
  refine ⟨fun σ' H' => ∃ (ls : Addr) (ss : List (List Nat)), σ' = [some (.ref b), some (.int (0 + (i : Int))), some (.ref kl), some (.ref ml), some (.bl a), some (.ref ls), c6, c7, c8] ∧ Fr [b] H H' ∧ Box b (M + 900) H' ∧ H' ls = some (.lst (sL ss)) ∧ ls ≠ b ∧ SyL ss 156 25, ?_, ?_⟩
  · cases a with
    | true =>
      refine ⟨b, 4, M + 1199, rfl, by omega, by omega, hb3.less (by omega), fun r Hx r0 r1 fx bx => ?_⟩
      walk_at "di"
      obtain ⟨m, hm, m1, m5⟩ : ∃ m : Nat, (1 + r) = m ∧ 1 ≤ m ∧ m ≤ 4 := ⟨(1 + r).toNat, by omega, by omega, by omega⟩
      rw [hm]
      refine ⟨b, kl, ml, ks, ms, m, M + 900, false, rfl, bx.less (by omega), hk3.fr fx, hm3.fr fx, m1, by omega, by omega, fun p t Hy fy by_ hp g => ?_⟩
      have F := F45.of g (by omega) nk nm
      have hbr : t.brk + 3 ≤ 7 * m := g.br
      refine ⟨p, t, ks, ms, true, 0, rfl, hp, F.wf, nk, by have := F.dep; unfold syM; split <;> omega, by omega, by have := F.tl; rw [tok_0]; omega, fun l H6 hl0 s6 hl => ?_⟩
      rw [tok_0] at hl
      refine ⟨l, _, rfl, ((f3.trans fx).trans fy).trans (Fr.of s6), by_.same s6, hl, fun z => ?_, syl_tok nk nm F.wf (by omega)⟩
      obtain ⟨xs, e⟩ := by_.cell
      rw [z, e] at hl0; cases hl0
    | false =>
      refine ⟨b, 4, M + 1199, rfl, by omega, by omega, hb3.less (by omega), fun r Hx r0 r1 fx bx => ?_⟩
      walk_at "di"
      obtain ⟨m, hm, m1, m5⟩ : ∃ m : Nat, (1 + r) = m ∧ 1 ≤ m ∧ m ≤ 4 := ⟨(1 + r).toNat, by omega, by omega, by omega⟩
      rw [hm]
      refine ⟨b, kl, ml, ks, ms, m, M + 900, false, rfl, bx.less (by omega), hk3.fr fx, hm3.fr fx, m1, by omega, by omega, fun p t Hy fy by_ hp g => ?_⟩
      have F := F45.of g.1 (by omega) nk nm
      have hbr : t.brk + 5 ≤ 7 * m := g.1.br
      refine ⟨p, t, ks, ms, false, 0, rfl, hp, F.wf, nk, by have := F.dep; unfold syM; split <;> omega, by omega, by have := F.tl; rw [tok_0]; omega, fun l H6 hl0 s6 hl => ?_⟩
      rw [tok_0] at hl
      refine ⟨l, _, rfl, ((f3.trans fx).trans fy).trans (Fr.of s6), by_.same s6, hl, fun z => ?_, syl_tok nk nm F.wf (by omega)⟩
      obtain ⟨xs, e⟩ := by_.cell
      rw [z, e] at hl0; cases hl0
  clear f3 hb3 hk3 hm3 ha
  rintro σ' H4 ⟨ls, ss, rfl, f4, hb4, hl4, nl4, sy4⟩
  refine ⟨fun σ' H' => ∃ (ls : Addr) (ss : List (List Nat)) (c6 : Option V), σ' = [some (.ref b), some (.int (0 + (i : Int))), some (.ref kl), some (.ref ml), some (.bl a), some (.ref ls), c6, c7, c8] ∧ Fr [b] H H' ∧ Box b (M + 700) H' ∧ H' ls = some (.lst (sL ss)) ∧ ls ≠ b ∧ SyL ss 158 27, ?_, ?_⟩
  · walk_at "dn"
    refine ⟨b, 3, M + 890, rfl, by omega, by omega, hb4.less (by omega), fun r Hx r0 r1 fx bx => ?_⟩
    obtain ⟨m, rfl, m5⟩ : ∃ m : Nat, r = m ∧ m ≤ 2 := ⟨r.toNat, by omega, by omega⟩
    refine ⟨m, rfl, by omega, by omega, ?_⟩
    refine lp_range (n := m) (fun j σ H' => ∃ (ls : Addr) (ss : List (List Nat)) (c6 : Option V), σ = [some (.ref b), some (.int (0 + (i : Int))), some (.ref kl), some (.ref ml), some (.bl a), some (.ref ls), c6, c7, c8] ∧ Fr [b] H H' ∧ Box b (M + 890 - 10 * j) H' ∧ H' ls = some (.lst (sL ss)) ∧ ls ≠ b ∧ SyL ss (156 + j) (25 + j)) ⟨ls, ss, _, rfl, f4.trans fx, bx, fx _ _ (fun z => nl4 (List.mem_singleton.mp z)) hl4, nl4, sy4⟩ ?_ ?_
    · rintro j σ H5 hj ⟨l5, s5, c6, rfl, f5, b5, hl5, nl5, sy5⟩
      walk_at "dn"
      refine ⟨b, l5, s5, M + 890 - 10 * (j + 1), 156 + j, 25 + j, rfl, b5.less (by omega), hl5, nl5, sy5, by omega, fun p ss' H6 f6 b6 np hp sy6 => ?_⟩
      exact ⟨p, ss', _, rfl, f5.trans f6, b6, hp, np, sy6⟩
    · rintro σ H5 ⟨l5, s5, c6, rfl, f5, b5, hl5, nl5, sy5⟩
      exact ⟨l5, s5, c6, rfl, f5, b5.less (by omega), hl5, nl5, ⟨sy5.ok, by have := sy5.len; omega, by have := sy5.op; omega⟩⟩
  clear f4 hb4 hl4 nl4 sy4
  rintro σ' H5 ⟨ls, ss, c6, rfl, f5, hb5, hl5, nl5, sy5⟩
  refine ⟨fun σ' H' => ∃ (ps : List (Nat × List Nat)) (e : Nat) (lp : Addr), σ' = [some (.ref b), some (.int (0 + (i : Int))), some (.ref kl), some (.ref ml), some (.bl a), some (.ref ls), c6, some (.str (tx (txtB ps e))), some (.ref lp)] ∧ Fr [b] H H' ∧ Box b M H' ∧ H' ls = some (.lst (sL ss)) ∧ H' lp = some (.lst ((plS 0 ps).map fun x => V.int (x.2 : Nat))) ∧ ps.map Prod.snd = ss ∧ OkL ps ∧ (txtB ps e).length ≤ 60000, ?_, ?_⟩
  · walk_at "dn"
    refine ⟨b, ls, ss, M, 158, 27, rfl, hb5.less (by omega), hl5, nl5, sy5, by omega, fun T lp ps e H6 f6 b6 hT hlp em ok hn => ?_⟩
    refine gt_of hT rfl ?_
    walk_at "di"
    exact ⟨ps, e, lp, rfl, f5.trans f6, b6, f6 _ _ (fun z => nl5 (List.mem_singleton.mp z)) hl5, hlp, em, ok, hn⟩
  clear f5 hb5 hl5 nl5
  rintro σ' H6 ⟨ps, e, lp, rfl, f6, hb6, hl6, hlp, em, ok, hn⟩
  walk_at "dn"
  have hne := laid_tot (a := a) (e := e) (ps := ps) (fun s hs => by rw [em] at hs; exact (sy5.ok s hs).1) (show opens (ps.map Prod.snd) < 34 by rw [em]; have := sy5.op; omega)
  have tail : ∀ (v : Option Nat), wrongL a (txtB ps e).length (wantW a) [] (plS 0 ps) = v → ∀ H7, Same H6 H7 → (tx (txtB ps e)).length ≤ sizeLine ∧ spLWrong Γ.K [V.ref ls, V.ref lp, V.int ((tx (txtB ps e)).length : Nat), V.bl a] H7 (fun x_1 H1 => spSame Γ.K 20 [resV v, x_1] H1 (fun x H' => tru Γ.K x H' fun k => br (!k) (Q (V.bl false) H') (∃ c1 c2 c3 c4 c5 c6_1 c7 c8 : Option V, [some (V.ref b), some (V.int (0 + (i : Int))), some (V.ref kl), some (V.ref ml), some (V.bl a), some (V.ref ls), c6, some (V.str (tx (txtB ps e))), some (V.ref lp)] = [some (V.ref b), c1, c2, c3, c4, c5, c6_1, c7, c8] ∧ G.Fr [b] H H' ∧ Box b M H')) E0) E0 := fun v hv H7 s7 => by
    refine ⟨by rw [tx_len]; exact szl (by omega), ls, lp, plS 0 ps, (txtB ps e).length, a, by rw [tx_len], ?_, SqL.of (s7 _ _ hlp), ?_, fun x hx => ?_, fun H8 s8 => ?_⟩
    · have e1 : (plS 0 ps).map (fun x => V.str (tx x.1)) = sL ss := by
        rw [← em, ← plS_map ps 0]
        unfold sL
        rw [List.map_map]
        rfl
      rw [e1]
      exact SqL.of (s7 _ _ hl6)
    · have e1 := congrArg List.length (plS_map ps 0)
      rw [em, List.length_map] at e1
      have := sy5.len
      omega
    · have hm : x.1 ∈ ss := by
        rw [← em, ← plS_map ps 0]
        exact List.mem_map.mpr ⟨x, hx, rfl⟩
      obtain ⟨h1, h2⟩ := sy5.ok _ hm
      exact ⟨h1, by omega⟩
    rw [hv]
    have fin : ∀ H9, Same H8 H9 → tru Γ.K (V.bl true) H9 fun k => br (!k) (Q (V.bl false) H9) (∃ c1 c2 c3 c4 c5 c6_1 c7 c8 : Option V, [some (V.ref b), some (V.int (0 + (i : Int))), some (V.ref kl), some (V.ref ml), some (V.bl a), some (V.ref ls), c6, some (V.str (tx (txtB ps e))), some (V.ref lp)] = [some (V.ref b), c1, c2, c3, c4, c5, c6_1, c7, c8] ∧ G.Fr [b] H H9 ∧ Box b M H9) := fun H9 s9 => by
      have s := (s7.trans s8).trans s9
      walk_at "di"
      exact ⟨_, _, _, _, _, _, _, _, rfl, f6.trans (Fr.of s), hb6.same s⟩
    cases v with
    | none => exact ⟨_, _, .none, rfl, .non, .non, by simp only [PyData.depth]; omega, trivial, fin⟩
    | some p => exact ⟨_, _, .int p, rfl, .int _, .int _, by simp only [PyData.depth]; omega, trivial, fin⟩
  refine ⟨txtB ps e, a, rfl, by omega, ?_⟩
  rcases readT_law (o := 34) (a := a) ok hne with ⟨t, l, h1, h2⟩ | ⟨p, h1, h2⟩
  · rw [h1]
    exact fun H7 s7 => tail none h2 H7 s7
  · rw [h1]
    exact fun H7 s7 => tail (some p) h2 H7 s7
theorem all_rep (n : Nat) : (List.replicate n true).all id = true := by simp
def spLaw (K : PySem.W.Frag) : Sp := fun vs H Q _ => ∃ (a : Addr) (ns : List Int), vs = [.ref a] ∧ SqL K H a (ns.map V.int) ∧ ns.length ≤ 63 ∧ ∀ H', Q (.bl true) H'
abbrev s_law48 : Stmt := topS 57
abbrev n_law48 : List Str := ["_law_script", "_law_slots_so", "_law_k", "_law_box_here", "_law_turn"]
theorem sc_law48 : FnScope n_law48 ["_law_script"] (defScope s_law48) := ⟨rfl, rfl, rfl, by decide +kernel, rfl, by decide +kernel, by decide +kernel⟩
theorem nm_law48 : nvB n_law48 (defScope s_law48) 0 "_law_script" = true ∧ nvB n_law48 (defScope s_law48) 1 "_law_slots_so" = true ∧ nvB n_law48 (defScope s_law48) 2 "_law_k" = true ∧ lvB n_law48 (defScope s_law48) 1 "_law_slots_so" = true ∧ lvB n_law48 (defScope s_law48) 2 "_law_k" = true ∧ lvB n_law48 (defScope s_law48) 3 "_law_box_here" = true ∧ gvB (defScope s_law48) "_law_box" = true ∧ gvB (defScope s_law48) "_law_cells" = true ∧ gvB (defScope s_law48) "all" = true ∧ gvB (defScope s_law48) "len" = true ∧ gvB (defScope s_law48) "range" = true := by decide +kernel
theorem cl_law48 {Γ : Gm} {f : Addr} {fd : FuncData} (dfn : L2.Fun Γ.K "law" "law" s_law48 f fd) (T : Names Γ) (c_law_cells : Cl Γ CX0 1 "_law_cells" (spCells Γ.K) []) (c_law_box : Cl Γ CX0 1 "_law_box" (spBox Γ.K) []) (c_law_right : Cl Γ CX0 215 "_law_right" spRight48 []) : FnOk Γ.P Γ.w Γ.K Γ.mg Γ.base CX0 (225) f fd ["_law_script"] (spLaw Γ.K) := by
  refine fun_top dfn sc_law48 (fun vs H Q E h => ?_) (fun f cdv A outer s H vs Q E hg h => ?_)
  · obtain ⟨a, ns, rfl, _⟩ := h
    rfl
  obtain ⟨a, ns, rfl, hl, hn, q⟩ := h
  have nd := sc_law48.nd
  obtain ⟨v0, v1, v2, l1, l2, l3, g__law_box, g__law_cells, g_all, g_len, g_range⟩ := nm_law48
  refine ⟨_, (C8.pss_cut (pst (i := 1) nd l1 (pcl c_law_cells hg (by omega) g__law_cells pass0 (pa_cons (ps 0 v0) (pa_cons pe_int pa_nil))))
    (pss_cons (ps_for PassesOwn.never rfl (pi_r1 g_range T.n_range (pa_cons (pcb (k_len hg) g_len T.n_len bt_len (pa_cons (ps 1 v1) pa_nil)) pa_nil)) (pgn (i := 2) nd l2)
    (pss_cons (pst (i := 3) nd l3 (pcl c_law_box hg (by omega) g__law_box pass0 (pa_cons (ps 1 v1) (pa_cons (ps 2 v2) pa_nil))))
    (pss_one (ps_ifB (pt_not (pt_tr hg (pcb (WC.ok hg) g_all T.n_all bt_all (pa_cons (pe_lc (own := [("_law_turn", 4)]) rfl nd (pi_r1 g_range T.n_range (pa_cons pe_int pa_nil)) (blkOk_by (N := n_law48) (sc := defScope s_law48) (by decide +kernel)) (fun _ _ _ _ _ => (pg_name (i := 4) nd rfl (by first | exact .inl rfl | exact .inr rfl))) (fun _ _ _ _ _ => pts_nil) (fun _ _ _ _ _ => (pcl c_law_right hg.blk (by omega) (by rfl) pass0 (pa_cons (psr 3) pa_nil)))) pa_nil))))
    (pss_one (ps_ret pe_bl))
    pss_nil))))
    (pss_one (ps_ret pe_bl)))), ?_⟩
  refine st_start (σ := [some _, none, none, none, none]) rfl ?_
  walk_at "dn"
  refine ⟨fun σ' H1 => ∃ (p : Addr) (ks : List Int), σ' = [some (.ref a), some (.ref p), none, none, none] ∧ SS (E := E1 Γ) H [] H1 [] [lstR p (ks.map V.int)] ∧ ks.length ≤ 3, ?_, ?_⟩
  · exact ⟨a, ns, 3, rfl, hl, hn, by omega, by omega, fun p H1 ks hp s1 hc k1 k3 => ⟨p, ks, rfl, SS.of1 hp s1 hc (fun z => z), k3⟩⟩
  rintro σ' H1 ⟨p, ks, rfl, s1, k3⟩
  walk_at "dn"
  refine wc_len_l (SqL.of (s1.cell (.head _))) ?_
  walk_at "di"
  rw [List.length_map]
  refine ⟨_, rfl, by omega, by omega, ?_⟩
  refine lp_range (fun i σ H' => ∃ c2 c3, σ = [some (.ref a), some (.ref p), c2, c3, none] ∧ SS (E := E1 Γ) H [] H' [] [lstR p (ks.map V.int)]) ⟨_, _, rfl, s1⟩ ?_ (fun σ H' ⟨_, _, h, s⟩ => by subst h; exact q H')
  rintro i σ H2 hi ⟨c2, c3, rfl, s2⟩
  have hi2 : i < ks.length := by omega
  walk_at "dn"
  refine ⟨p, ks, i, by simp, SqL.of (s2.cell (.head _)), hi2, by omega, fun pb H3 hpb sh hb => ?_⟩
  have s3 := s2.newR (boxR pb (2 ^ 39)) sh hb (List.nodup_cons.mpr ⟨List.not_mem_nil, List.nodup_nil⟩) (fun a ha => by
    cases ha with
    | head => exact hpb
    | tail _ z => cases z) (fun a ha => by
    cases ha with
    | head => obtain ⟨xs, e⟩ := hb.cell; exact ⟨_, e, fun z => z⟩
    | tail _ z => cases z)
  walk_at "di"
  refine ⟨_, rfl, by decide, by decide, fun D hD => ?_⟩
  refine lq_it walk_range (fun j acc H' => SS (E := E1 Γ) H [] H' [] [lstR D acc, boxR pb (2 ^ 39 - 30000 * j), lstR p (ks.map V.int)] ∧ acc = (List.replicate j true).map V.bl) ⟨s3.newC (o := .lst []) hD (fun z => z), rfl⟩ (fun _ _ _ _ _ => trivial) ?_ ?_
  · rintro j x acc H4 H5 hj hl2 ⟨s, ha⟩ ⟨rfl, hx2⟩
    have hj2 : j < 30 := Nat.lt_of_lt_of_le hj (by decide)
    walk_at "dn"
    refine ⟨rfl, pb, 2 ^ 39 - 30000 * (j + 1), rfl, (s.box (by walk_at "mem")).less (by omega), fun H6 f6 b6 => ?_⟩
    have s6 := s.draw (n := 2 ^ 39 - 30000 * (j + 1)) (by walk_at "pick") f6 b6
    refine lq_add s6 hl2 (lt_size (by omega)) ⟨_, lq_len hl2, s6.app, ?_⟩
    rw [ha, List.replicate_succ', List.map_append]
    rfl
  · rintro acc H4 hl2 ⟨s, ha⟩
    subst ha
    refine wc_all (SqL.of (s.cell (.head _))) ?_
    rw [all_rep]
    walk_at "di"
    exact ⟨_, _, rfl, s.drop.drop⟩
def fns : List DE := [
  ⟨fun K => He.ma K (He.ga K "BadText") "__init__", "__init__", "BadText.__init__", s_E_BadText, fun K => [], []⟩,
  ⟨fun K => He.ga K "_law_take", "_law_take", "_law_take", s_take, fun K => [], []⟩,
  ⟨fun K => He.ga K "_law_box", "_law_box", "_law_box", s_box, fun K => [], []⟩,
  ⟨fun K => He.ga K "_law_of", "_law_of", "_law_of", s_of, fun K => [], []⟩,
  ⟨fun K => He.ga K "_law_cells", "_law_cells", "_law_cells", s_cells, fun K => [], []⟩,
  ⟨fun K => He.ga K "_law_pick", "_law_pick", "_law_pick", s_pick, fun K => [], []⟩,
  ⟨fun K => He.ga K "_law_names", "_law_names", "_law_names", s_names, fun K => [], []⟩,
  ⟨fun K => He.ma K (He.ga K "Test") "__init__", "__init__", "Test.__init__", s_Ts_init, fun K => [], []⟩,
  ⟨fun K => He.ma K (He.ga K "Look") "__init__", "__init__", "Look.__init__", s_Lk_init, fun K => [], []⟩,
  ⟨fun K => He.ga K "run_length", "run_length", "run_length", s_runlen, fun K => [], []⟩,
  ⟨fun K => He.ga K "symbol_at", "symbol_at", "symbol_at", s_symat, fun K => [], []⟩,
  ⟨fun K => He.ga K "symbols_of", "symbols_of", "symbols_of", s_symsof, fun K => [], []⟩,
  ⟨fun K => He.ma K (He.ga K "Reader") "taken", "taken", "Reader.taken", s_R_taken, fun K => [], []⟩,
  ⟨fun K => He.ga K "is_name", "is_name", "is_name", s_isnameB, fun K => [], []⟩,
  ⟨fun K => He.ma K (He.ga K "Reader") "need", "need", "Reader.need", s_R_needX, fun K => [], []⟩,
  ⟨fun K => He.ma K (He.ga K "Reader") "word", "word", "Reader.word", s_R_wordX, fun K => [], []⟩,
  ⟨fun K => He.ma K (He.ga K "Reader") "ended", "ended", "Reader.ended", s_R_endedX, fun K => [], []⟩,
  ⟨fun K => He.ma K (He.ga K "Reader") "look", "look", "Reader.look", s_R_look, fun K => [], []⟩,
  ⟨fun K => He.ma K (He.ga K "Reader") "single_look", "single_look", "Reader.single_look", s_R_slook, fun K => [], []⟩,
  ⟨fun K => He.ma K (He.ga K "Reader") "test", "test", "Reader.test", s_R_test, fun K => [], []⟩,
  ⟨fun K => He.ma K (He.ga K "Reader") "guarded_look", "guarded_look", "Reader.guarded_look", s_R_guard, fun K => [], []⟩,
  ⟨fun K => He.ma K (He.ga K "Reader") "turned_test", "turned_test", "Reader.turned_test", s_R_turned, fun K => [], []⟩,
  ⟨fun K => He.ma K (He.ga K "Reader") "single_test", "single_test", "Reader.single_test", s_R_stest, fun K => [], []⟩,
  ⟨fun K => He.ma K (He.ga K "Reader") "__init__", "__init__", "Reader.__init__", s_R_init, fun K => [], []⟩,
  ⟨fun K => He.ga K "look_of", "look_of", "look_of", s_lookof, fun K => [], []⟩,
  ⟨fun K => He.ga K "test_of", "test_of", "test_of", s_testof, fun K => [], []⟩,
  ⟨fun K => He.ga K "_law_leaf", "_law_leaf", "_law_leaf", s_leaf, fun K => [], []⟩,
  ⟨fun K => He.ga K "_law_look", "_law_look", "_law_look", s_look, fun K => [], []⟩,
  ⟨fun K => He.ga K "_law_test", "_law_test", "_law_test", s_test, fun K => [], []⟩,
  ⟨fun K => He.ga K "_law_same", "_law_same", "_law_same", s_same, fun K => [], []⟩,
  ⟨fun K => He.ga K "_law_rank", "_law_rank", "_law_rank", s_rank, fun K => [], []⟩,
  ⟨fun K => He.ga K "_law_symbols", "_law_symbols", "_law_symbols", s_lsym, fun K => [], []⟩,
  ⟨fun K => He.ga K "_law_wordy", "_law_wordy", "_law_wordy", s_lwordy, fun K => [], []⟩,
  ⟨fun K => He.ga K "_law_at", "_law_at", "_law_at", s_lat, fun K => [], []⟩,
  ⟨fun K => He.ga K "_law_sort", "_law_sort", "_law_sort", s_lsort, fun K => [], []⟩,
  ⟨fun K => He.ga K "_law_opened", "_law_opened", "_law_opened", s_lopened, fun K => [], []⟩,
  ⟨fun K => He.ga K "_law_closed", "_law_closed", "_law_closed", s_lclosed, fun K => [], []⟩,
  ⟨fun K => He.ga K "_law_gone", "_law_gone", "_law_gone", s_lgone, fun K => [], []⟩,
  ⟨fun K => He.ga K "_law_wrong", "_law_wrong", "_law_wrong", s_lwrong, fun K => [], []⟩,
  ⟨fun K => He.ga K "_law_spoilt", "_law_spoilt", "_law_spoilt", s_lspoilt, fun K => [], []⟩,
  ⟨fun K => He.ga K "_law_laid", "_law_laid", "_law_laid", s_llaid, fun K => [], []⟩,
  ⟨fun K => He.ga K "_law_by_hand_right", "_law_by_hand_right", "_law_by_hand_right", s_lhand48, fun K => [], []⟩,
  ⟨fun K => He.ga K "_law_right", "_law_right", "_law_right", s_right48, fun K => [], []⟩,
  ⟨fun K => He.ga K "law", "law", "law", s_law48, fun K => [], []⟩]
def exs : List (PySem.W.Frag → Bool) := [
  okFa (.free "ValueError"),
  okFa (.free "abs"),
  okFa (.free "all"),
  okFa (.free "any"),
  okFa (.free "bool"),
  okFa (.free "chr"),
  okFa (.free "dict"),
  okFa (.free "enumerate"),
  okFa (.free "int"),
  okFa (.free "isinstance"),
  okFa (.free "len"),
  okFa (.free "list"),
  okFa (.free "max"),
  okFa (.free "min"),
  okFa (.free "ord"),
  okFa (.free "range"),
  okFa (.free "reversed"),
  okFa (.free "set"),
  okFa (.free "sorted"),
  okFa (.free "str"),
  okFa (.free "sum"),
  okFa (.free "tuple"),
  okFa (.free "zip"),
  errB "BadText" ["at"],
  okFa (.glo "_law_take"),
  okFa (.glo "_law_box"),
  okFa (.glo "_law_of"),
  okFa (.glo "_law_cells"),
  okFa (.glo "_law_pick"),
  okFa (.glo "_law_names"),
  okFa (.cls "Test"),
  okFa (.meth "Test" "__init__"),
  okFa (.cls "Look"),
  okFa (.meth "Look" "__init__"),
  okFa (.glo "run_length"),
  okFa (.glo "symbol_at"),
  okFa (.glo "symbols_of"),
  okFa (.cls "Reader"),
  okFa (.meth "Reader" "taken"),
  okFa (.glo "is_name"),
  okFa (.meth "Reader" "need"),
  okFa (.meth "Reader" "word"),
  okFa (.meth "Reader" "ended"),
  okFa (.meth "Reader" "look"),
  okFa (.meth "Reader" "single_look"),
  okFa (.meth "Reader" "test"),
  okFa (.meth "Reader" "guarded_look"),
  okFa (.meth "Reader" "turned_test"),
  okFa (.meth "Reader" "single_test"),
  okFa (.meth "Reader" "__init__"),
  okFa (.glo "look_of"),
  okFa (.glo "test_of"),
  okFa (.glo "_law_leaf"),
  okFa (.glo "_law_look"),
  okFa (.glo "_law_test"),
  okFa (.glo "_law_same"),
  okFa (.glo "_law_rank"),
  okFa (.glo "_law_symbols"),
  okFa (.glo "_law_wordy"),
  okFa (.glo "_law_at"),
  okFa (.glo "_law_sort"),
  okFa (.glo "_law_opened"),
  okFa (.glo "_law_closed"),
  okFa (.glo "_law_gone"),
  okFa (.glo "_law_wrong"),
  okFa (.glo "_law_spoilt"),
  okFa (.glo "_law_laid"),
  okFa (.glo "_law_by_hand_right"),
  okFa (.glo "_law_right"),
  okFa (.glo "law"),
  okFa (.str "LETTERS" LET),
  kfB "Test",
  okFa (.mkr "Test"),
  kfB "Look",
  okFa (.mkr "Look"),
  krB,
  okFa (.str "SIGNS" (Str.ofString "()[],|&^~")),
  tpgB "LOOK_WORDS" lwords,
  tpgB "LOOK_SIGNS" lsigns,
  tpgB "TEST_WORDS" twords,
  tpgB "TEST_SIGNS" tsigns,
  okFa (.mkr "Reader"),
  okFa (.glo "LineError"),
  okFa (.exm "BadText" "BadText" true),
  excBx "BadText",
  kiB "BadText" "LineError"]
abbrev R : PySem.W.OpenRow := PySem.W.OpenLaw.row PySem.Challenge.rw_linelooks_k48_texts_that_are_wrong
abbrev hk : PySem.W.Hook := hookR 3000 exs fns
def ob (s : PySem.W.SharedT) : AlE := obsRG 3000 exs fns (HandSHeadRun.getT s)
theorem ob_eq (s : PySem.W.SharedT) : ob s = hk.obs s.abs := obsRG_eq (HandSHeadRun.getT_eq s)
def loose : List Str := (["_wall", "__name__", "LineError", "NoRow", "NoStep", "NoWay", "BadText", "__name__", "LETTERS", "is_number", "is_name", "__name__", "back_of", "repeated", "parts_of", "names_in", "steps_in", "row_at", "holds_at", "Test", "Look", "__name__", "LOOK_SIGNS", "LOOK_WORDS", "TEST_SIGNS", "TEST_WORDS", "SIGNS", "run_length", "symbol_at", "symbols_of"] : List Str) ++ (["Reader", "look_of", "test_of", "__name__", "_law_box", "_law_take", "_law_cells", "_law_of", "_law_pick", "_law_same", "_law_names", "_law_leaf", "_law_look", "_law_test", "_law_rank", "_law_symbols", "_law_wordy", "_law_at", "_law_sort", "_law_opened", "_law_closed", "_law_gone", "_law_wrong", "_law_spoilt", "_law_laid", "_law_by_hand_right", "_law_right"] : List Str)
theorem map3 {α β γ δ : Type _} {o : Option α} {f : α → β} {g : α → γ} {h : α → δ} {x : β} {y : γ} {z : δ} (a : o.map f = some x) (b : o.map g = some y) (c : o.map h = some z) : o.map (fun s => (f s, g s, h s)) = some (x, y, z) := by
  cases o with
  | none => cases a
  | some s =>
    obtain rfl : f s = x := by simpa using a
    obtain rfl : g s = y := by simpa using b
    obtain rfl : h s = z := by simpa using c
    rfl
section
open PySem.W HandSHeadRun
theorem run1 (w : World) (os : OsState) : (endF (stepQ (denQ tabQ) R.prog w) 20000 R.prog w os).map (fun s => looksF R.prog (boot_heap w.params) s.abs) = some true := by
  kernel_rfl
theorem run2 (w : World) (os : OsState) : (endF (stepQ (denQ tabQ) R.prog w) 20000 R.prog w os).map (fun s => seenQ (view R.prog [57]) loose (importedModules R.prog.main.body) (fun s => xlAt (view R.prog [57]) [] s && recOk R.toRowW.records s) s.abs) = some (openGood (view R.prog [57]) loose) := by
  kernel_rfl
theorem run3 (w : World) (os : OsState) : (endF (stepQ (denQ tabQ) R.prog w) 20000 R.prog w os).map ob = some (hk.val w) := by
  kernel_rfl
end
theorem run (w : World) : HandSHeadRun.RunEq R (PySem.W.view R.prog [57]) hk ob 20000 loose w := fun os => map3 (run1 w os) (run2 w os) (run3 w os)
theorem all_mk {P : Program} {w : World} {K : PySem.W.Frag} {h : Heap} {mg : Str → Option Value} {fa : Addr} (X : K.In h) (N : h.Ns mainGlobals mg) (hfa : mg "law" = some (.ref fa)) (c : SaysE exs fns K) :
    ∃ fd : FuncData, (∀ (s : Shared) (v : Value), BindsTo s fd ⟨[v], []⟩ [("_law_script", v)]) ∧ ∀ base : Heap, K.In base → base.Ns mainGlobals mg → FnOk P w K mg base CX0 225 fa fd ["_law_script"] (spLaw K) := by
  have e0 := hfa.symm.trans (He.glo_ok X N (c.fact 69 rfl))
  obtain ⟨fd_law, F_law⟩ := c.def_ 43 rfl
  cases e0
  have bA := FunD.bindsA (ps := ["_law_script"]) F_law fun _ _ _ _ _ _ us hl => match us, hl with | [_], _ => rfl
  refine ⟨fd_law, fun s v => bA s [v] rfl, fun base _ _ => ?_⟩
  let Γ : Gm := ⟨P, w, K, mg, base, 0⟩
  have T : Names Γ := ⟨He.free_ok X N (c.fact 0 rfl), He.free_ok X N (c.fact 1 rfl), He.free_ok X N (c.fact 2 rfl), He.free_ok X N (c.fact 3 rfl), He.free_ok X N (c.fact 4 rfl), He.free_ok X N (c.fact 5 rfl), He.free_ok X N (c.fact 6 rfl), He.free_ok X N (c.fact 7 rfl), He.free_ok X N (c.fact 8 rfl), He.free_ok X N (c.fact 9 rfl), He.free_ok X N (c.fact 10 rfl), He.free_ok X N (c.fact 11 rfl), He.free_ok X N (c.fact 12 rfl), He.free_ok X N (c.fact 13 rfl), He.free_ok X N (c.fact 14 rfl), He.free_ok X N (c.fact 15 rfl), He.free_ok X N (c.fact 16 rfl), He.free_ok X N (c.fact 17 rfl), He.free_ok X N (c.fact 18 rfl), He.free_ok X N (c.fact 19 rfl), He.free_ok X N (c.fact 20 rfl), He.free_ok X N (c.fact 21 rfl), He.free_ok X N (c.fact 22 rfl)⟩
  obtain ⟨fd_E_BadText, F_E_BadText⟩ := c.def_ 0 rfl
  have b_E_BadText : Binds K fd_E_BadText ["self", "at"] [] := FunD.bindsN F_E_BadText fun _ _ _ _ _ _ us hl => match us, hl with | [_, _], _ => rfl
  obtain ⟨fd_take, F_take⟩ := c.def_ 1 rfl
  have b_take : Binds K fd_take ["_law_box_here", "_law_below"] [] := FunD.bindsN F_take fun _ _ _ _ _ _ us hl => match us, hl with | [_, _], _ => rfl
  have d_take : Dfn Γ "_law_take" s_take ["_law_box_here", "_law_below"] := dfn_of X N (c.fact 24 rfl) F_take b_take
  obtain ⟨fd_box, F_box⟩ := c.def_ 2 rfl
  have b_box : Binds K fd_box ["_law_script", "_law_k"] [] := FunD.bindsN F_box fun _ _ _ _ _ _ us hl => match us, hl with | [_, _], _ => rfl
  have d_box : Dfn Γ "_law_box" s_box ["_law_script", "_law_k"] := dfn_of X N (c.fact 25 rfl) F_box b_box
  obtain ⟨fd_of, F_of⟩ := c.def_ 3 rfl
  have b_of : Binds K fd_of ["_law_box_here", "_law_goods_so"] [] := FunD.bindsN F_of fun _ _ _ _ _ _ us hl => match us, hl with | [_, _], _ => rfl
  have d_of : Dfn Γ "_law_of" s_of ["_law_box_here", "_law_goods_so"] := dfn_of X N (c.fact 26 rfl) F_of b_of
  obtain ⟨fd_cells, F_cells⟩ := c.def_ 4 rfl
  have b_cells : Binds K fd_cells ["_law_script", "_law_most"] [] := FunD.bindsN F_cells fun _ _ _ _ _ _ us hl => match us, hl with | [_, _], _ => rfl
  have d_cells : Dfn Γ "_law_cells" s_cells ["_law_script", "_law_most"] := dfn_of X N (c.fact 27 rfl) F_cells b_cells
  obtain ⟨fd_pick, F_pick⟩ := c.def_ 5 rfl
  have b_pick : Binds K fd_pick ["_law_box_here", "_law_goods_so", "_law_count_so"] [] := FunD.bindsN F_pick fun _ _ _ _ _ _ us hl => match us, hl with | [_, _, _], _ => rfl
  have d_pick : Dfn Γ "_law_pick" s_pick ["_law_box_here", "_law_goods_so", "_law_count_so"] := dfn_of X N (c.fact 28 rfl) F_pick b_pick
  obtain ⟨fd_names, F_names⟩ := c.def_ 6 rfl
  have b_names : Binds K fd_names ["_law_box_here", "_law_many"] [] := FunD.bindsN F_names fun _ _ _ _ _ _ us hl => match us, hl with | [_, _], _ => rfl
  have d_names : Dfn Γ "_law_names" s_names ["_law_box_here", "_law_many"] := dfn_of X N (c.fact 29 rfl) F_names b_names
  obtain ⟨fd_Ts_init, F_Ts_init⟩ := c.def_ 7 rfl
  have b_Ts_init : Binds K fd_Ts_init ["self", "tree"] [] := FunD.bindsN F_Ts_init fun _ _ _ _ _ _ us hl => match us, hl with | [_, _], _ => rfl
  have d_Ts_init : DfM Γ (He.ga K "Test") "__init__" "Test.__init__" s_Ts_init ["self", "tree"] := dfm_of (c.fact 30 rfl) (c.fact 31 rfl) F_Ts_init b_Ts_init
  obtain ⟨fd_Lk_init, F_Lk_init⟩ := c.def_ 8 rfl
  have b_Lk_init : Binds K fd_Lk_init ["self", "tree"] [] := FunD.bindsN F_Lk_init fun _ _ _ _ _ _ us hl => match us, hl with | [_, _], _ => rfl
  have d_Lk_init : DfM Γ (He.ga K "Look") "__init__" "Look.__init__" s_Lk_init ["self", "tree"] := dfm_of (c.fact 32 rfl) (c.fact 33 rfl) F_Lk_init b_Lk_init
  obtain ⟨fd_runlen, F_runlen⟩ := c.def_ 9 rfl
  have b_runlen : Binds K fd_runlen ["text", "at"] [] := FunD.bindsN F_runlen fun _ _ _ _ _ _ us hl => match us, hl with | [_, _], _ => rfl
  have d_runlen : Dfn Γ "run_length" s_runlen ["text", "at"] := dfn_of X N (c.fact 34 rfl) F_runlen b_runlen
  obtain ⟨fd_symat, F_symat⟩ := c.def_ 10 rfl
  have b_symat : Binds K fd_symat ["text", "at"] [] := FunD.bindsN F_symat fun _ _ _ _ _ _ us hl => match us, hl with | [_, _], _ => rfl
  have d_symat : Dfn Γ "symbol_at" s_symat ["text", "at"] := dfn_of X N (c.fact 35 rfl) F_symat b_symat
  obtain ⟨fd_symsof, F_symsof⟩ := c.def_ 11 rfl
  have b_symsof : Binds K fd_symsof ["text"] [] := FunD.bindsN F_symsof fun _ _ _ _ _ _ us hl => match us, hl with | [_], _ => rfl
  have d_symsof : Dfn Γ "symbols_of" s_symsof ["text"] := dfn_of X N (c.fact 36 rfl) F_symsof b_symsof
  obtain ⟨fd_R_taken, F_R_taken⟩ := c.def_ 12 rfl
  have b_R_taken : Binds K fd_R_taken ["self", "symbol"] [] := FunD.bindsN F_R_taken fun _ _ _ _ _ _ us hl => match us, hl with | [_, _], _ => rfl
  have d_R_taken : DfM Γ (He.ga K "Reader") "taken" "Reader.taken" s_R_taken ["self", "symbol"] := dfm_of (c.fact 37 rfl) (c.fact 38 rfl) F_R_taken b_R_taken
  obtain ⟨fd_isnameB, F_isnameB⟩ := c.def_ 13 rfl
  have b_isnameB : Binds K fd_isnameB ["value"] [] := FunD.bindsN F_isnameB fun _ _ _ _ _ _ us hl => match us, hl with | [_], _ => rfl
  have d_isnameB : Dfn Γ "is_name" s_isnameB ["value"] := dfn_of X N (c.fact 39 rfl) F_isnameB b_isnameB
  obtain ⟨fd_R_needX, F_R_needX⟩ := c.def_ 14 rfl
  have b_R_needX : Binds K fd_R_needX ["self", "symbol"] [] := FunD.bindsN F_R_needX fun _ _ _ _ _ _ us hl => match us, hl with | [_, _], _ => rfl
  have d_R_needX : DfM Γ (He.ga K "Reader") "need" "Reader.need" s_R_needX ["self", "symbol"] := dfm_of (c.fact 37 rfl) (c.fact 40 rfl) F_R_needX b_R_needX
  obtain ⟨fd_R_wordX, F_R_wordX⟩ := c.def_ 15 rfl
  have b_R_wordX : Binds K fd_R_wordX ["self"] [] := FunD.bindsN F_R_wordX fun _ _ _ _ _ _ us hl => match us, hl with | [_], _ => rfl
  have d_R_wordX : DfM Γ (He.ga K "Reader") "word" "Reader.word" s_R_wordX ["self"] := dfm_of (c.fact 37 rfl) (c.fact 41 rfl) F_R_wordX b_R_wordX
  obtain ⟨fd_R_endedX, F_R_endedX⟩ := c.def_ 16 rfl
  have b_R_endedX : Binds K fd_R_endedX ["self", "tree"] [] := FunD.bindsN F_R_endedX fun _ _ _ _ _ _ us hl => match us, hl with | [_, _], _ => rfl
  have d_R_endedX : DfM Γ (He.ga K "Reader") "ended" "Reader.ended" s_R_endedX ["self", "tree"] := dfm_of (c.fact 37 rfl) (c.fact 42 rfl) F_R_endedX b_R_endedX
  obtain ⟨fd_R_look, F_R_look⟩ := c.def_ 17 rfl
  have b_R_look : Binds K fd_R_look ["self", "level"] [] := FunD.bindsN F_R_look fun _ _ _ _ _ _ us hl => match us, hl with | [_, _], _ => rfl
  have d_R_look : DfM Γ (He.ga K "Reader") "look" "Reader.look" s_R_look ["self", "level"] := dfm_of (c.fact 37 rfl) (c.fact 43 rfl) F_R_look b_R_look
  obtain ⟨fd_R_slook, F_R_slook⟩ := c.def_ 18 rfl
  have b_R_slook : Binds K fd_R_slook ["self"] [] := FunD.bindsN F_R_slook fun _ _ _ _ _ _ us hl => match us, hl with | [_], _ => rfl
  have d_R_slook : DfM Γ (He.ga K "Reader") "single_look" "Reader.single_look" s_R_slook ["self"] := dfm_of (c.fact 37 rfl) (c.fact 44 rfl) F_R_slook b_R_slook
  obtain ⟨fd_R_test, F_R_test⟩ := c.def_ 19 rfl
  have b_R_test : Binds K fd_R_test ["self", "level"] [] := FunD.bindsN F_R_test fun _ _ _ _ _ _ us hl => match us, hl with | [_, _], _ => rfl
  have d_R_test : DfM Γ (He.ga K "Reader") "test" "Reader.test" s_R_test ["self", "level"] := dfm_of (c.fact 37 rfl) (c.fact 45 rfl) F_R_test b_R_test
  obtain ⟨fd_R_guard, F_R_guard⟩ := c.def_ 20 rfl
  have b_R_guard : Binds K fd_R_guard ["self"] [] := FunD.bindsN F_R_guard fun _ _ _ _ _ _ us hl => match us, hl with | [_], _ => rfl
  have d_R_guard : DfM Γ (He.ga K "Reader") "guarded_look" "Reader.guarded_look" s_R_guard ["self"] := dfm_of (c.fact 37 rfl) (c.fact 46 rfl) F_R_guard b_R_guard
  obtain ⟨fd_R_turned, F_R_turned⟩ := c.def_ 21 rfl
  have b_R_turned : Binds K fd_R_turned ["self"] [] := FunD.bindsN F_R_turned fun _ _ _ _ _ _ us hl => match us, hl with | [_], _ => rfl
  have d_R_turned : DfM Γ (He.ga K "Reader") "turned_test" "Reader.turned_test" s_R_turned ["self"] := dfm_of (c.fact 37 rfl) (c.fact 47 rfl) F_R_turned b_R_turned
  obtain ⟨fd_R_stest, F_R_stest⟩ := c.def_ 22 rfl
  have b_R_stest : Binds K fd_R_stest ["self"] [] := FunD.bindsN F_R_stest fun _ _ _ _ _ _ us hl => match us, hl with | [_], _ => rfl
  have d_R_stest : DfM Γ (He.ga K "Reader") "single_test" "Reader.single_test" s_R_stest ["self"] := dfm_of (c.fact 37 rfl) (c.fact 48 rfl) F_R_stest b_R_stest
  obtain ⟨fd_R_init, F_R_init⟩ := c.def_ 23 rfl
  have b_R_init : Binds K fd_R_init ["self", "text"] [] := FunD.bindsN F_R_init fun _ _ _ _ _ _ us hl => match us, hl with | [_, _], _ => rfl
  have d_R_init : DfM Γ (He.ga K "Reader") "__init__" "Reader.__init__" s_R_init ["self", "text"] := dfm_of (c.fact 37 rfl) (c.fact 49 rfl) F_R_init b_R_init
  obtain ⟨fd_lookof, F_lookof⟩ := c.def_ 24 rfl
  have b_lookof : Binds K fd_lookof ["text"] [] := FunD.bindsN F_lookof fun _ _ _ _ _ _ us hl => match us, hl with | [_], _ => rfl
  have d_lookof : Dfn Γ "look_of" s_lookof ["text"] := dfn_of X N (c.fact 50 rfl) F_lookof b_lookof
  obtain ⟨fd_testof, F_testof⟩ := c.def_ 25 rfl
  have b_testof : Binds K fd_testof ["text"] [] := FunD.bindsN F_testof fun _ _ _ _ _ _ us hl => match us, hl with | [_], _ => rfl
  have d_testof : Dfn Γ "test_of" s_testof ["text"] := dfn_of X N (c.fact 51 rfl) F_testof b_testof
  obtain ⟨fd_leaf, F_leaf⟩ := c.def_ 26 rfl
  have b_leaf : Binds K fd_leaf ["_law_box_here", "_law_kinds_so", "_law_short"] [] := FunD.bindsN F_leaf fun _ _ _ _ _ _ us hl => match us, hl with | [_, _, _], _ => rfl
  have d_leaf : Dfn Γ "_law_leaf" s_leaf ["_law_box_here", "_law_kinds_so", "_law_short"] := dfn_of X N (c.fact 52 rfl) F_leaf b_leaf
  obtain ⟨fd_look, F_look⟩ := c.def_ 27 rfl
  have b_look : Binds K fd_look ["_law_box_here", "_law_most", "_law_kinds_so", "_law_marks_so", "_law_short"] [] := FunD.bindsN F_look fun _ _ _ _ _ _ us hl => match us, hl with | [_, _, _, _, _], _ => rfl
  have d_look : Dfn Γ "_law_look" s_look ["_law_box_here", "_law_most", "_law_kinds_so", "_law_marks_so", "_law_short"] := dfn_of X N (c.fact 53 rfl) F_look b_look
  obtain ⟨fd_test, F_test⟩ := c.def_ 28 rfl
  have b_test : Binds K fd_test ["_law_box_here", "_law_most", "_law_kinds_so", "_law_marks_so", "_law_short"] [] := FunD.bindsN F_test fun _ _ _ _ _ _ us hl => match us, hl with | [_, _, _, _, _], _ => rfl
  have d_test : Dfn Γ "_law_test" s_test ["_law_box_here", "_law_most", "_law_kinds_so", "_law_marks_so", "_law_short"] := dfn_of X N (c.fact 54 rfl) F_test b_test
  obtain ⟨fd_same, F_same⟩ := c.def_ 29 rfl
  have b_same : Binds K fd_same ["_law_got", "_law_due"] [] := FunD.bindsN F_same fun _ _ _ _ _ _ us hl => match us, hl with | [_, _], _ => rfl
  have d_same : Dfn Γ "_law_same" s_same ["_law_got", "_law_due"] := dfn_of X N (c.fact 55 rfl) F_same b_same
  obtain ⟨fd_rank, F_rank⟩ := c.def_ 30 rfl
  have b_rank : Binds K fd_rank ["_law_tree", "_law_asks"] [] := FunD.bindsN F_rank fun _ _ _ _ _ _ us hl => match us, hl with | [_, _], _ => rfl
  have d_rank : Dfn Γ "_law_rank" s_rank ["_law_tree", "_law_asks"] := dfn_of X N (c.fact 56 rfl) F_rank b_rank
  obtain ⟨fd_lsym, F_lsym⟩ := c.def_ 31 rfl
  have b_lsym : Binds K fd_lsym ["_law_tree", "_law_asks", "_law_least"] [] := FunD.bindsN F_lsym fun _ _ _ _ _ _ us hl => match us, hl with | [_, _, _], _ => rfl
  have d_lsym : Dfn Γ "_law_symbols" s_lsym ["_law_tree", "_law_asks", "_law_least"] := dfn_of X N (c.fact 57 rfl) F_lsym b_lsym
  obtain ⟨fd_lwordy, F_lwordy⟩ := c.def_ 32 rfl
  have b_lwordy : Binds K fd_lwordy ["_law_box_here", "_law_many"] [] := FunD.bindsN F_lwordy fun _ _ _ _ _ _ us hl => match us, hl with | [_, _], _ => rfl
  have d_lwordy : Dfn Γ "_law_wordy" s_lwordy ["_law_box_here", "_law_many"] := dfn_of X N (c.fact 58 rfl) F_lwordy b_lwordy
  obtain ⟨fd_lat, F_lat⟩ := c.def_ 33 rfl
  have b_lat : Binds K fd_lat ["_law_words", "_law_asks"] [] := FunD.bindsN F_lat fun _ _ _ _ _ _ us hl => match us, hl with | [_, _], _ => rfl
  have d_lat : Dfn Γ "_law_at" s_lat ["_law_words", "_law_asks"] := dfn_of X N (c.fact 59 rfl) F_lat b_lat
  obtain ⟨fd_lsort, F_lsort⟩ := c.def_ 34 rfl
  have b_lsort : Binds K fd_lsort ["_law_symbol"] [] := FunD.bindsN F_lsort fun _ _ _ _ _ _ us hl => match us, hl with | [_], _ => rfl
  have d_lsort : Dfn Γ "_law_sort" s_lsort ["_law_symbol"] := dfn_of X N (c.fact 60 rfl) F_lsort b_lsort
  obtain ⟨fd_lopened, F_lopened⟩ := c.def_ 35 rfl
  have b_lopened : Binds K fd_lopened ["_law_want", "_law_open_so", "_law_symbol"] [] := FunD.bindsN F_lopened fun _ _ _ _ _ _ us hl => match us, hl with | [_, _, _], _ => rfl
  have d_lopened : Dfn Γ "_law_opened" s_lopened ["_law_want", "_law_open_so", "_law_symbol"] := dfn_of X N (c.fact 61 rfl) F_lopened b_lopened
  obtain ⟨fd_lclosed, F_lclosed⟩ := c.def_ 36 rfl
  have b_lclosed : Binds K fd_lclosed ["_law_want", "_law_open_so", "_law_symbol"] [] := FunD.bindsN F_lclosed fun _ _ _ _ _ _ us hl => match us, hl with | [_, _, _], _ => rfl
  have d_lclosed : Dfn Γ "_law_closed" s_lclosed ["_law_want", "_law_open_so", "_law_symbol"] := dfn_of X N (c.fact 62 rfl) F_lclosed b_lclosed
  obtain ⟨fd_lgone, F_lgone⟩ := c.def_ 37 rfl
  have b_lgone : Binds K fd_lgone ["_law_want", "_law_open_so", "_law_symbol"] [] := FunD.bindsN F_lgone fun _ _ _ _ _ _ us hl => match us, hl with | [_, _, _], _ => rfl
  have d_lgone : Dfn Γ "_law_gone" s_lgone ["_law_want", "_law_open_so", "_law_symbol"] := dfn_of X N (c.fact 63 rfl) F_lgone b_lgone
  obtain ⟨fd_lwrong, F_lwrong⟩ := c.def_ 38 rfl
  have b_lwrong : Binds K fd_lwrong ["_law_symbols_so", "_law_places_so", "_law_size", "_law_asks"] [] := FunD.bindsN F_lwrong fun _ _ _ _ _ _ us hl => match us, hl with | [_, _, _, _], _ => rfl
  have d_lwrong : Dfn Γ "_law_wrong" s_lwrong ["_law_symbols_so", "_law_places_so", "_law_size", "_law_asks"] := dfn_of X N (c.fact 64 rfl) F_lwrong b_lwrong
  obtain ⟨fd_lspoilt, F_lspoilt⟩ := c.def_ 39 rfl
  have b_lspoilt : Binds K fd_lspoilt ["_law_box_here", "_law_symbols_so"] [] := FunD.bindsN F_lspoilt fun _ _ _ _ _ _ us hl => match us, hl with | [_, _], _ => rfl
  have d_lspoilt : Dfn Γ "_law_spoilt" s_lspoilt ["_law_box_here", "_law_symbols_so"] := dfn_of X N (c.fact 65 rfl) F_lspoilt b_lspoilt
  obtain ⟨fd_llaid, F_llaid⟩ := c.def_ 40 rfl
  have b_llaid : Binds K fd_llaid ["_law_box_here", "_law_symbols_so"] [] := FunD.bindsN F_llaid fun _ _ _ _ _ _ us hl => match us, hl with | [_, _], _ => rfl
  have d_llaid : Dfn Γ "_law_laid" s_llaid ["_law_box_here", "_law_symbols_so"] := dfn_of X N (c.fact 66 rfl) F_llaid b_llaid
  obtain ⟨fd_lhand48, F_lhand48⟩ := c.def_ 41 rfl
  have b_lhand48 : Binds K fd_lhand48 [] [] := FunD.bindsN F_lhand48 fun _ _ _ _ _ _ us hl => match us, hl with | [], _ => rfl
  have d_lhand48 : Dfn Γ "_law_by_hand_right" s_lhand48 [] := dfn_of X N (c.fact 67 rfl) F_lhand48 b_lhand48
  obtain ⟨fd_right48, F_right48⟩ := c.def_ 42 rfl
  have b_right48 : Binds K fd_right48 ["_law_box_here"] [] := FunD.bindsN F_right48 fun _ _ _ _ _ _ us hl => match us, hl with | [_], _ => rfl
  have d_right48 : Dfn Γ "_law_right" s_right48 ["_law_box_here"] := dfn_of X N (c.fact 68 rfl) F_right48 b_right48
  have e_BadText := err_of (lv := 0) (k := 1) (n := 1) (fs := fsD ["at"]) X N (c.fact 23 rfl) (by decide) (fun o1 o2 => cl_E_BadText (Γ := Γ) (fun_of F_E_BadText) T o1 o2) b_E_BadText
  have gcL : ∃ u, Γ.mg "LETTERS" = some u ∧ RelV (.str LET) u := by
    obtain ⟨t, e⟩ := He.str_ok X N (c.fact 70 rfl)
    exact ⟨_, e, t, rfl⟩
  have c_isnameB := cl_isnameB d_isnameB T gcL
  have c_isname : Cl Γ CX0 1 "is_name" spIsName [] := c_isnameB.imp (fun _ _ _ _ h => isname_b h) (Nat.le_refl _)
  have LT : KF Γ "Test" (He.ga K "Test") := kf_of X N (c.fact 71 rfl)
  have mTs := mkr_of (c.fact 72 rfl)
  have kT : Mkr Γ CX0 1 "Test" (He.ga K "Test") (spInit (He.ga K "Test")) [] := (cl_Ts_init d_Ts_init T LT).mkr mTs.makes mTs.kp LT.mg
  have LL : KF Γ "Look" (He.ga K "Look") := kf_of X N (c.fact 73 rfl)
  have mL := mkr_of (c.fact 74 rfl)
  have kL : Mkr Γ CX0 1 "Look" (He.ga K "Look") (spInit (He.ga K "Look")) [] := (cl_Lk_init d_Lk_init T LL).mkr mL.makes mL.kp LL.mg
  have c_take := cl_take d_take T
  have c_box := cl_box d_box T
  have c_of := cl_of d_of T c_take
  have c_cells := cl_cells d_cells T
  have c_pick := cl_pick d_pick T c_take
  have c_names := cl_names d_names T c_take c_of c_pick
  have c_leaf := cl_leaf d_leaf T c_take c_of
  have c_lt : ∀ d, Cl Γ CX0 (2 * d + 3) "_law_look" (spLook K d) [] ∧ Cl Γ CX0 (2 * d + 4) "_law_test" (spTest K d) [] := fun d => by
    induction d with
    | zero =>
      exact ⟨(d_look.cl_no sc_look fun vs H Q E ⟨_, _, _, _, _, m, _, _, _, _, _, _, h1, h2, _⟩ => by omega).imp (fun _ _ _ _ h => h) (by omega), (d_test.cl_no sc_test fun vs H Q E ⟨_, _, _, _, _, m, _, _, _, _, _, _, h1, h2, _⟩ => by omega).imp (fun _ _ _ _ h => h) (by omega)⟩
    | succ d ih =>
      have hl := cl_look d_look T c_take c_of c_leaf ih.1 ih.2
      exact ⟨hl, cl_test d_test T c_take c_of c_leaf hl ih.2⟩
  have c_same : ∀ d, Cl Γ CX0 (d + 1) "_law_same" (spSame K d) [] := fun d => by
    induction d with
    | zero => exact d_same.cl_no sc_same fun vs H Q E ⟨_, _, _, _, _, _, hd, _⟩ => by omega
    | succ d ih => exact cl_same d_same T ih
  have RC : KR Γ (He.ga K "Reader") := kr_of X N (c.fact 75 rfl)
  have gcS : ∃ u, Γ.mg "SIGNS" = some u ∧ RelV (.str (Str.ofString "()[],|&^~")) u := by
    obtain ⟨t, e⟩ := He.str_ok X N (c.fact 76 rfl)
    exact ⟨_, e, t, rfl⟩
  have c_runlen := cl_runlen d_runlen T gcL
  have c_symat := cl_symat d_symat T gcS c_runlen
  have c_symsof := cl_symsof d_symsof T c_symat
  have r_taken := cl_R_taken d_R_taken T RC
  have r_need := cl_R_needX d_R_needX T RC e_BadText r_taken
  have r_word := cl_R_wordX d_R_wordX T RC e_BadText c_isnameB
  have r_ended := cl_R_endedX d_R_endedX T RC e_BadText
  have tlw := tpg_of (c.fact 77 rfl)
  have tls := tpg_of (c.fact 78 rfl)
  have ttw := tpg_of (c.fact 79 rfl)
  have tts := tpg_of (c.fact 80 rfl)
  have glw : ∃ u, Γ.mg "LOOK_WORDS" = some u ∧ RelV (.ref (He.ga K "LOOK_WORDS")) u := ⟨_, He.glo_ok X N (He.ba (c.fact 77 rfl)).1, rfl⟩
  have gls : ∃ u, Γ.mg "LOOK_SIGNS" = some u ∧ RelV (.ref (He.ga K "LOOK_SIGNS")) u := ⟨_, He.glo_ok X N (He.ba (c.fact 78 rfl)).1, rfl⟩
  have gtw : ∃ u, Γ.mg "TEST_WORDS" = some u ∧ RelV (.ref (He.ga K "TEST_WORDS")) u := ⟨_, He.glo_ok X N (He.ba (c.fact 79 rfl)).1, rfl⟩
  have gts : ∃ u, Γ.mg "TEST_SIGNS" = some u ∧ RelV (.ref (He.ga K "TEST_SIGNS")) u := ⟨_, He.glo_ok X N (He.ba (c.fact 80 rfl)).1, rfl⟩
  have c_rd : ∀ o, Mt Γ (CXN Γ) (6 * o + 3) (He.ga K "Reader") "look" (spRd K (He.ga K "Reader") (He.ga K "BadText") [.int 0] (rd o false)) [] ∧ Mt Γ (CXN Γ) (6 * o + 3) (He.ga K "Reader") "test" (spRd K (He.ga K "Reader") (He.ga K "BadText") [.int 0] (rd o true)) [] := fun o => by
    induction o with
    | zero => exact ⟨d_R_look.mtN (k := 2) sc_R_look (fun vs H Q E ⟨A, i, _, _, nn, _⟩ => (nn rfl).elim) (fun f cdv A outer s H vs Q E g tk po ⟨_, _, _, _, nn, _⟩ => (nn rfl).elim), d_R_test.mtN (k := 2) sc_R_test (fun vs H Q E ⟨A, i, _, _, nn, _⟩ => (nn rfl).elim) (fun f cdv A outer s H vs Q E g tk po ⟨_, _, _, _, nn, _⟩ => (nn rfl).elim)⟩
    | succ o ih =>
      have r_sl := cl_R_slook (n := 6 * o + 3) (R := rd o) d_R_slook T (by omega) RC e_BadText r_taken r_need ih.1
      have r_st := cl_R_stest (n := 6 * o + 3) (R := rd o) d_R_stest T (by omega) RC e_BadText r_taken r_need r_word ih.1 ih.2
      have r_g := cl_R_guard (n := 6 * o + 3) (R := rd o) d_R_guard T (by omega) RC r_taken r_need ih.2 r_sl
      have r_t := cl_R_turned (n := 6 * o + 3) (R := rd o) d_R_turned T (by omega) RC r_taken r_st
      have lk : ∀ k, k ≤ 3 → Mt Γ (CXN Γ) (6 * o + 3 + 2 + k + 1) (He.ga K "Reader") "look" (spRd K (He.ga K "Reader") (He.ga K "BadText") [.int (3 - (k : Int))] (rdK (rd o) false k)) [] := fun k => by
        induction k using Nat.strongRecOn with
        | ind k ih2 => exact fun hk => cl_R_look (n := 6 * o + 3 + 2) d_R_look T hk (by omega) RC tlw tls glw gls r_taken r_g fun j hj => ih2 j hj (by omega)
      have tk : ∀ k, k ≤ 3 → Mt Γ (CXN Γ) (6 * o + 3 + 2 + k + 1) (He.ga K "Reader") "test" (spRd K (He.ga K "Reader") (He.ga K "BadText") [.int (3 - (k : Int))] (rdK (rd o) true k)) [] := fun k => by
        induction k using Nat.strongRecOn with
        | ind k ih2 => exact fun hk => cl_R_test (n := 6 * o + 3 + 2) d_R_test T hk (by omega) RC ttw tts gtw gts r_taken r_t fun j hj => ih2 j hj (by omega)
      exact ⟨(lk 3 (Nat.le_refl _)).imp (fun _ _ _ _ h => h) (by omega), (tk 3 (Nat.le_refl _)).imp (fun _ _ _ _ h => h) (by omega)⟩
  have mR := mkr_of (c.fact 81 rfl)
  have kR : Mkr Γ CX0 5 "Reader" (He.ga K "Reader") (spRInit K (He.ga K "Reader")) [] := (cl_R_init d_R_init T RC c_symsof).mkr mR.makes mR.kp RC.mg
  have o_lo := (cl_lookof (Γ := Γ) (m := 207) (o := 34) (fun_of F_lookof) T (by omega) RC kR kL (c_rd 34).1 r_ended).mono (show 207 + 1 ≤ 210 by omega)
  have o_to := (cl_testof (Γ := Γ) (m := 207) (o := 34) (fun_of F_testof) T (by omega) RC kR kT (c_rd 34).2 r_ended).mono (show 207 + 1 ≤ 210 by omega)
  have c_lo : Cl Γ (CXN Γ) 210 "look_of" (spReadT K (He.ga K "Look") (He.ga K "BadText") 34 false) [] := ⟨_, fd_lookof, _, [], o_lo, He.glo_ok X N (c.fact 50 rfl), F_lookof.kp, b_lookof, .nil⟩
  have c_to : Cl Γ (CXN Γ) 210 "test_of" (spReadT K (He.ga K "Test") (He.ga K "BadText") 34 true) [] := ⟨_, fd_testof, _, [], o_to, He.glo_ok X N (c.fact 51 rfl), F_testof.kp, b_testof, .nil⟩
  have c_rank := cl_rank d_rank T
  have c_lsym : ∀ n, Cl Γ CX0 (n + 2) "_law_symbols" (spLSym K n) [] := fun n => by
    induction n with
    | zero =>
      have dp : ∀ t : Tr, 1 ≤ t.dep := fun t => by cases t <;> simp [Tr.dep]
      exact (d_lsym.cl_no sc_lsym fun vs H Q E ⟨p, t, _, _, _, _, _, _, _, _, hd, _⟩ => by have := dp t; unfold syM at hd; omega).imp (fun _ _ _ _ h => h) (by omega)
    | succ n ih => exact cl_lsym d_lsym T c_rank ih
  have c_lwordy := cl_lwordy d_lwordy T c_take c_pick c_names
  have c_test : Cl Γ CX0 30 "_law_test" (spTest K 8) [] := (c_lt 8).2.imp (fun _ _ _ _ h => h) (by omega)
  have c_look : Cl Γ CX0 30 "_law_look" (spLook K 8) [] := (c_lt 8).1.imp (fun _ _ _ _ h => h) (by omega)
  have gcL : ∃ u, Γ.mg "LineError" = some u ∧ RelV (.ref (He.ga K "LineError")) u := ⟨_, He.glo_ok X N (c.fact 82 rfl), rfl⟩
  have c_at := cl_lat (o := 34) d_lat T c_lo c_to e_BadText gcL (of_decide_eq_true (c.fact 83 rfl)) (excB_ok (show excBx "BadText" K = true from c.fact 84 rfl)) (of_decide_eq_true (show kiB "BadText" "LineError" K = true from c.fact 85 rfl))
  have c_sort := cl_lsort d_lsort T
  have c_opened := cl_lopened d_lopened T c_sort
  have c_closed := cl_lclosed d_lclosed T
  have c_gone := cl_lgone d_lgone T c_sort c_opened c_closed
  have c_wrong := cl_lwrong d_lwrong T c_gone
  have c_spoilt := cl_lspoilt d_lspoilt T c_take c_of
  have c_laid := cl_llaid d_llaid T c_take
  have c_hand := cl_lhand48 d_lhand48 T c_at ((c_same 20).imp (fun _ _ _ _ h => h) (by omega))
  have c_right := cl_right48 d_right48 T c_hand c_take c_lwordy c_look c_test ((c_lsym 40).imp (fun _ _ _ _ h => h) (by omega)) ((c_same 20).imp (fun _ _ _ _ h => h) (by omega)) c_at c_spoilt c_laid c_wrong
  exact cl_law48 (Γ := Γ) (fun_of F_law) T c_cells c_box c_right
end K
open PySem PySem.W PySem.Calls PyProof.Rows
set_option maxRecDepth 100000 in
set_option maxHeartbeats 0 in
theorem PySem.Challenge.cw_linelooks_k48_texts_that_are_wrong_holds : PySem.Challenge.rw_linelooks_k48_texts_that_are_wrong.Holds := by
  w_on; o_law
  refine HandSHeadRun.head_any (r := OpenLaw.row PySem.Challenge.rw_linelooks_k48_texts_that_are_wrong) (q := view (OpenLaw.row PySem.Challenge.rw_linelooks_k48_texts_that_are_wrong).prog [57]) (H := K.hk) (ob := K.ob) (M := 20000) (loose := K.loose) (d := HandSHeadRun.topDef (OpenLaw.row PySem.Challenge.rw_linelooks_k48_texts_that_are_wrong).prog 57) (kwd := []) K.ob_eq
    (by kernel_rfl) (fun s => by kernel_rfl) K.run (by kernel_rfl) (by kernel_rfl) (by kernel_rfl) (by rfl) (by first | assumption | decide +kernel) (by decide +kernel) ⟨rfl, rfl, rfl, rfl, rfl, by decide +kernel⟩ ?hw ?hc
  case hw => w_witness2
  case hc =>
    refine L2.walk_ofE (l := PySem.Challenge.rw_linelooks_k48_texts_that_are_wrong) (n := 63) (k := 225) (x := "_law_script") (CX := L2.CX0) rfl (by decide) (by kernel_rfl) ⟨rfl, by decide, by decide⟩ ?F (fun _ _ _ _ z => z)
    intro w mg fa h Y G hmg0
    obtain ⟨K', KX, c⟩ := Y
    have hmg : mg ("law" : PySem.Str) = some (.ref fa) := by
      have e : (HandSHeadRun.topDef (OpenLaw.row PySem.Challenge.rw_linelooks_k48_texts_that_are_wrong).prog 57).name = ("law" : PySem.Str) := by kernel_rfl
      rw [← e]
      exact hmg0
    obtain ⟨fd, hb, hF⟩ := K.all_mk (P := (PySem.Challenge.rw_linelooks_k48_texts_that_are_wrong).prog) (w := w) KX G hmg c
    exact ⟨K', fd, K.spLaw K', KX, hb, fun H a ns hl _ hS => ⟨a, ns, rfl, hS, hl, fun _ => rfl⟩, hF⟩
