import PyProof.Rows.All
import Wide.All
import OpenK.AllK
import Wide.FinOn
import HandS.ClsMeth
import HandS.Conv
import HandS.Defaults
import HandS.DictTup
import HandS.ExcField
import HandS.ExcInit
import HandS.ExcOwn
import HandS.ExcValue
import HandS.FStr
import HandS.Flow
import HandS.ForExc
import HandS.ForMost
import HandS.Head0
import HandS.Head1
import HandS.Head2
import HandS.HeadEnd
import HandS.HeadHook1
import HandS.HeadHook2
import HandS.HeadHook3
import HandS.HeadHook4
import HandS.IsInst
import HandS.NoneIn
import HandS.SortInts
import HandS.Strs
import HandS.Style
import HandS.TupAny
import HandS.TupLe
import HandS.TupMul
import HandS.Walk
import HandS.Wide
import HandS.WideMore
import HandS.Zip
import KE.GoesEnum
import KE.KDictKeyed
import KE.KItemsList
import KE.KStateDown
import KE.KeyNested
import PyProof.CollectIter
import PyProof.FactsAll.tuple_2
import PyProof.ListMulRoad
import PySem.Challenge.RW_sameshown_k04_whole_one_row_of_letters_f
set_option Elab.async false
set_option linter.all false
set_option maxRecDepth 100000
set_option maxHeartbeats 4000000
namespace K4
open PySem PySem.Spec PyProof.Rows L2
/-! ### the text by places -/
def top (i : Nat) : Stmt := PySem.Challenge.pw_sameshown_k04_whole_one_row_of_letters_f.main.body.getD i (.Pass ⟨0, 0, 0, 0⟩)
abbrev s_wall : Stmt := top 0
abbrev s_is_whole : Stmt := top 7
abbrev s_is_list : Stmt := top 8
abbrev s_is_side : Stmt := top 9
abbrev s_is_letter : Stmt := top 10
abbrev s_kinds_for : Stmt := top 15
abbrev s_is_vector : Stmt := top 16
abbrev s_is_rest : Stmt := top 17
abbrev s_is_part : Stmt := top 18
abbrev s_is_choice : Stmt := top 19
abbrev s_are_choices : Stmt := top 20
abbrev s_first_vector : Stmt := top 21
abbrev sm_BadLetters_init : Stmt := inClass (top 27) 0
abbrev s_signs_in : Stmt := top 36
abbrev s_lower_signs : Stmt := top 37
abbrev s_letters_in : Stmt := top 38
abbrev sm_Coder_init : Stmt := inClass (top 39) 0
abbrev sm_Coder_chances : Stmt := inClass (top 39) 1
abbrev sm_Coder_chance_of : Stmt := inClass (top 39) 2
abbrev sm_Coder_narrowed : Stmt := inClass (top 39) 3
abbrev sm_Coder_came : Stmt := inClass (top 39) 4
abbrev sm_Coder_learn : Stmt := inClass (top 39) 5
abbrev s_need_sign : Stmt := top 40
abbrev sm_Writer_bit : Stmt := inClass (top 41) 0
abbrev sm_Writer_even : Stmt := inClass (top 41) 1
abbrev sm_Writer_number : Stmt := inClass (top 41) 2
abbrev sm_Writer_letters : Stmt := inClass (top 41) 3
abbrev sm_Reader_init : Stmt := inClass (top 42) 0
abbrev sm_Reader_sign_at : Stmt := inClass (top 42) 1
abbrev sm_Reader_came : Stmt := inClass (top 42) 2
abbrev sm_Reader_read_by : Stmt := inClass (top 42) 3
abbrev sm_Reader_bit : Stmt := inClass (top 42) 4
abbrev sm_Reader_even : Stmt := inClass (top 42) 5
abbrev sm_Reader_number : Stmt := inClass (top 42) 6
abbrev s_middle : Stmt := top 44
abbrev s_guessed_vector : Stmt := top 45
abbrev s_vector_part : Stmt := top 49
abbrev s_write_vector : Stmt := top 50
abbrev s_write_rest : Stmt := top 51
abbrev s_write_choice : Stmt := top 52
abbrev s_read_vector : Stmt := top 53
abbrev s_read_rest : Stmt := top 54
abbrev s_read_choice : Stmt := top 55
abbrev s_need_size : Stmt := top 56
abbrev s_letters_of : Stmt := top 57
abbrev s_read_choices : Stmt := top 58
abbrev s_first_unlike : Stmt := top 59
abbrev s_choices_of : Stmt := top 60
abbrev s_law_begin : Stmt := top 62
abbrev s_law_more : Stmt := top 63
abbrev s_law_next : Stmt := top 64
abbrev s_law_pick : Stmt := top 65
abbrev s_law_vector : Stmt := top 66
abbrev s_law_coder : Stmt := top 67
abbrev s_law_sign : Stmt := top 68
abbrev s_law_power : Stmt := top 69
abbrev s_law_number : Stmt := top 70
abbrev s_law_counts_by : Stmt := top 71
abbrev s_law_told_vector : Stmt := top 72
abbrev s_law_told_rest : Stmt := top 73
abbrev s_law_told : Stmt := top 74
abbrev s_law_all_told : Stmt := top 75
abbrev s_law_told_of : Stmt := top 76
abbrev s_law_read : Stmt := top 77
abbrev s_law_rows_of : Stmt := top 78
abbrev s_law_is_theirs : Stmt := top 79
abbrev s_law_right : Stmt := top 80
abbrev s_law : Stmt := top 81
/-! ### defs -/
abbrev FnP (K : PySem.W.Frag) (x q : Str) (st : Stmt) (f : Addr) (fd : FuncData) : Prop := FunD K x q (defArgs st) (defBody st) (defScope st) [] [] f fd
/-- a global def as the top leaves it -/
structure Df (K : PySem.W.Frag) (mg : Str → Option Value) (x : Str) (st : Stmt) : Prop where
  fn : ∃ fd, FnP K x x st (He.ga K x) fd
  gl : mg x = some (.ref (He.ga K x))
/-- a global def that keeps a promise -/
structure Dk (P : Program) (w : World) (K : PySem.W.Frag) (mg : Str → Option Value) (base : Heap) (CX : CXT) (k : Nat) (x : Str) (ps : List Str) (sp : Sp) : Prop where
  ok : ∃ fd, FnOk P w K mg base CX k (He.ga K x) fd ps sp ∧ Binds K fd ps []
  gl : mg x = some (.ref (He.ga K x))
  kp : PySem.W.keepIn K (.ref (He.ga K x)) = true
section
variable {P : Program} {w : World} {K : PySem.W.Frag} {mg : Str → Option Value} {base : Heap} {CX : CXT}
theorem Dk.mk' {x : Str} {st : Stmt} {N ps : List Str} {k : Nat} {sp : Sp} (D : Df K mg x st) (S : FnScope N ps (defScope st))
    (hb : ∀ (kV doc pm : Value) (an : Option Addr) (cdv ct : Value) (us : List Value), us.length = ps.length → bindArgs (PySem.W.fnOf x x (defArgs st) (defBody st) (defScope st) .none kV doc pm an cdv ct) ⟨us, []⟩ = pure (ps.zip us))
    (len : ∀ vs H Q E, sp vs H Q E → vs.length = ps.length)
    (hbody : ∀ (cdv : Value) (A : Around) (outer : List Env) (s : Shared) (H : Hp) (vs : List V) (Q : VK) (E : XK), Room k (A.deeper (envOfC x (defScope st) s.heap.objs.size (He.ga K x) cdv)) → sp vs H Q E →
      ∃ t, PSs (cxOf CX0 P w K mg base N x (defScope st) (He.ga K x) cdv A outer s H E).nox (defBody st) t ∧ t { nx := fun _ H' => Q .non H', rt := Q } (start N vs) H) : Dk P w K mg base CX0 (k + 1) x ps sp := by
  obtain ⟨fd, F⟩ := D.fn
  refine ⟨⟨fd, F.ok S len fun cdv A outer s H vs Q E hr h => ?_, F.bindsN hb⟩, D.gl, F.kp⟩
  obtain ⟨t, h1, h2⟩ := hbody cdv A outer s H vs Q E hr h
  exact ⟨t, h1.nox, h2⟩
end
section
variable {X : Cx} {x : Str} {ps : List Str} {sp : Sp} {k j : Nat} {e : Expr} {es : List Expr} {t : TA} {p pos : Pos} {E : XK} {CX : CXT}
theorem pcall (D : Dk X.prog X.w X.K X.mg X.base CX0 k x ps sp) (hr : Room j X.A) (hkj : k ≤ j) (hg : Gl X x) (ha : PA X (e :: es) t)
    (hdb : (x == ("__debug__" : Str)) = false := by decide) (he : starEach (e :: es) X.env = (false, eval e X.env) :: starEach es X.env := by rfl) (hpl : (backTo pos (starEach es X.env)).any (·.1) = false := by rfl) :
    PE X (.Call (.Name x p) (e :: es) [] pos) (tCall sp [] E0 t) := by
  obtain ⟨fd, F, b⟩ := D.ok
  exact pe_call F (hr.mono hkj) hg D.gl D.kp b .nil pass0 ha hdb he hpl
end
/-! ### isinstance -/
section
variable {X : Cx}
def rIsa (b : Bool) (T : String) (r : V → Hp → Prop) : List V → Hp → VK → Prop := fun xs H Q => ∃ x, xs = [x, .ty T] ∧ r x H ∧ Q (.bl b) H
theorem isa_int : CallR X (.builtin "isinstance") (rIsa true "int" fun x _ => ∃ i, x = .int i) := by
  intro pins s σ H xs us Q I r h
  obtain ⟨x, rfl, ⟨i, rfl⟩, q⟩ := h
  exact call_isi pins s σ H _ us Q I r ⟨_, _, _, _, true, rfl, .ty _, .base (.int i), kit_ty (by decide +kernel), q⟩
theorem isa_int_bool : CallR X (.builtin "isinstance") (rIsa false "bool" fun x _ => ∃ i, x = .int i) := by
  intro pins s σ H xs us Q I r h
  obtain ⟨x, rfl, ⟨i, rfl⟩, q⟩ := h
  exact call_isi pins s σ H _ us Q I r ⟨_, _, _, _, false, rfl, .ty _, .base (.int i), kit_ty (by decide +kernel), q⟩
theorem isa_str : CallR X (.builtin "isinstance") (rIsa true "str" fun x _ => ∃ i, x = .str i) := by
  intro pins s σ H xs us Q I r h
  obtain ⟨x, rfl, ⟨i, rfl⟩, q⟩ := h
  exact call_isi pins s σ H _ us Q I r ⟨_, _, _, _, true, rfl, .ty _, .base (.str i), kit_ty (by decide +kernel), q⟩
theorem tyx_tup {K : PySem.W.Frag} {H : Hp} {a : Addr} {xs : List V} (h : SqT K H a xs) : TyX K H (.ref a) (.type "tuple") := by
  rcases h with (h | ⟨o, h⟩) | ⟨o, its, n, hk, hc, _⟩
  · exact .base (.tup h)
  · exact .fTuple h
  · exact .kTuple hk hc
theorem isa_tup : CallR X (.builtin "isinstance") (rIsa true "tuple" fun x H => ∃ a xs, x = .ref a ∧ SqT X.K H a xs) := by
  intro pins s σ H xs us Q I r h
  obtain ⟨x, rfl, ⟨a, ys, rfl, hs⟩, q⟩ := h
  exact call_isi pins s σ H _ us Q I r ⟨_, _, _, _, true, rfl, .ty _, tyx_tup hs, kit_ty (by decide +kernel), q⟩
theorem isa_lt : CallR X (.builtin "isinstance") (fun xs H Q => ∃ a tp ys, xs = [.ref a, .ref tp] ∧ H tp = some (.tup [.ty "list", .ty "tuple"]) ∧ SqT X.K H a ys ∧ Q (.bl true) H) := by
  intro pins s σ H xs us Q I r h
  obtain ⟨a, tp, ys, rfl, ht, hs, q⟩ := h
  exact call_isiT pins s σ H _ us Q I r ⟨_, tp, _, _, [.type "list", .type "tuple"], true, rfl, ht, .cons (.ty _) (.cons (.ty _) .nil), tyx_tup hs,
    kitAny_cons (b := false) (kit_ty (by decide +kernel)) (fun _ => kitAny_cons (b := true) (kit_ty (by decide +kernel)) (fun h => nomatch h) (fun _ => rfl)) (fun h => nomatch h), q⟩
end
section
variable {X : Cx}
theorem pe_ty (T : String) {x : Str} {pos : Pos} (hm : X.mg x = none) (hg : Gl X x := by rfl) (hv : bootBuiltins x = some (.type T) := by decide +kernel) (hn : x ≠ "__name__" := by decide) (hd : (x == ("__debug__" : Str)) = false := by decide) : PE X (.Name x pos) (tC (.ty T)) :=
  pe_bltn hg hm hv rfl hn hd
/-- a call of a built-in function, of a built-in type -/
theorem pB {x : Str} {id : String} {r : List V → Hp → VK → Prop} {e : Expr} {es : List Expr} {t : TA} {p pos : Pos} (hc : CallR X (.builtin id) r) (hm : X.mg x = none) (ha : PA X (e :: es) t) (hg : Gl X x := by rfl) (hv : bootBuiltins x = some (.builtin id) := by decide +kernel)
    (hn : x ≠ "__name__" := by decide) (hdb : (x == ("__debug__" : Str)) = false := by decide) (he : starEach (e :: es) X.env = (false, eval e X.env) :: starEach es X.env := by rfl) (hpl : (backTo pos (starEach es X.env)).any (·.1) = false := by rfl) :
    PE X (.Call (.Name x p) (e :: es) [] pos) (tCB r t) := pe_callB hc hg hm hv ha hn hdb he hpl
theorem pT {x : Str} {T : String} {r : List V → Hp → VK → Prop} {e : Expr} {es : List Expr} {t : TA} {p pos : Pos} (hc : CallR X (.type T) r) (hm : X.mg x = none) (ha : PA X (e :: es) t) (hg : Gl X x := by rfl) (hv : bootBuiltins x = some (.type T) := by decide +kernel)
    (hn : x ≠ "__name__" := by decide) (hdb : (x == ("__debug__" : Str)) = false := by decide) (he : starEach (e :: es) X.env = (false, eval e X.env) :: starEach es X.env := by rfl) (hpl : (backTo pos (starEach es X.env)).any (·.1) = false := by rfl) :
    PE X (.Call (.Name x p) (e :: es) [] pos) (tCB r t) := pe_callTy hc hg hm hv ha hn hdb he hpl
end
/-! ### heaps -/
theorem _root_.L2.Same.more {H H' : Hp} {l : Addr} {o : HO} (s : Same H H') (n : H l = none) : Same H (upd H' l o) := fun b u e => by
  rw [upd_ne (ne_of_none e n)]
  exact s b u e
theorem _root_.L2.Same.new {H : Hp} {l : Addr} {o : HO} (n : H l = none) : Same H (upd H l o) := Same.more (Same.refl H) n
/-! ### short words -/
section
variable {X : Cx}
/-- a module's number -/
theorem pgI {i : Int} {x : Str} {pos : Pos} (h : ∃ t, X.mg x = some (.int i t)) (hg : Gl X x := by rfl) (hd : (x == ("__debug__" : Str)) = false := by decide) : PE X (.Name x pos) (tC (.int i)) := by
  obtain ⟨t, h⟩ := h
  exact pe_glob hg h ⟨t, rfl⟩ hd
/-- xs.append(e), xs a list of the slots -/
def tApp (tl te : TE) : TS := fun D σ H => tl σ H fun x H1 => ∃ l, x = .ref l ∧ (∃ xs, H1 l = some (.lst xs)) ∧ te σ H1 fun y H2 => ∃ xs, H2 l = some (.lst xs) ∧ xs.length < sizeLine ∧ D.nx σ (upd H2 l (.lst (xs ++ [y])))
end
/-! ### what the top leaves -/
structure Bt (mg : Str → Option Value) : Prop where
  len : mg "len" = none
  range : mg "range" = none
  isinstance : mg "isinstance" = none
  int : mg "int" = none
  bool : mg "bool" = none
  list : mg "list" = none
  tuple : mg "tuple" = none
  str : mg "str" = none
  all : mg "all" = none
  zip : mg "zip" = none
  enumerate : mg "enumerate" = none
  abs : mg "abs" = none
  min : mg "min" = none
  max : mg "max" = none
  sorted : mg "sorted" = none
/-- the module's numbers -/
structure Ct (mg : Str → Option Value) : Prop where
  leastSide : ∃ t, mg "LEAST_SIDE" = some (.int 4 t)
  mostSide : ∃ t, mg "MOST_SIDE" = some (.int 32 t)
  mostVector : ∃ t, mg "MOST_VECTOR" = some (.int 32 t)
  mostRest : ∃ t, mg "MOST_REST" = some (.int 4000 t)
  mostReads : ∃ t, mg "MOST_READS" = some (.int 2 t)
  even : ∃ t, mg "EVEN" = some (.int 1024 t)
  whole : ∃ t, mg "WHOLE" = some (.int 2048 t)
  slow : ∃ t, mg "SLOW" = some (.int 32 t)
  leastBreadth : ∃ t, mg "LEAST_BREADTH" = some (.int 16777216 t)
  firstBreadth : ∃ t, mg "FIRST_BREADTH" = some (.int 4294967296 t)
  ahead : ∃ t, mg "AHEAD" = some (.int 4 t)
  mostNumber : ∃ t, mg "MOST_NUMBER" = some (.int 8190 t)
  turn : ∃ t, mg "TURN" = some (.int 65 t)
end K4
/-! The coder, its decision trees: plain Lean. -/
namespace K4
section
variable {N : Type} [DecidableEq N] {α β γ : Type}

structure CS (N : Type) where
  low : Int
  wide : Int
  n : Nat
  m : Nat
  ch : N → Int

def prob (o : Option N) (s : CS N) : Int := match o with
  | none => 1024
  | some x => s.ch x
def part (o : Option N) (s : CS N) : Int := s.wide / 2048 * prob o s
def chNew (p : Int) (b : Bool) : Int := if b = true then p - p / 32 else p + (2048 - p) / 32
def chUp (o : Option N) (b : Bool) (s : CS N) : N → Int := match o with
  | none => s.ch
  | some x => fun y => if y = x then chNew (s.ch x) b else s.ch y
def low1 (o : Option N) (b : Bool) (s : CS N) : Int := if b = true then s.low + part o s else s.low
def wide1 (o : Option N) (b : Bool) (s : CS N) : Int := if b = true then s.wide - part o s else part o s
def renorm (l w : Int) (n m : Nat) (c : N → Int) : CS N := if w < 16777216 then ⟨l * 256, w * 256, n + 1, m, c⟩ else ⟨l, w, n, m, c⟩
def step (o : Option N) (b : Bool) (s : CS N) : CS N := renorm (low1 o b s) (wide1 o b s) s.n (s.m + 1) (chUp o b s)

structure Ok (s : CS N) : Prop where
  lo : 16777216 ≤ s.wide
  hi : s.wide ≤ 4294967296
  ch : ∀ x, 31 ≤ s.ch x ∧ s.ch x ≤ 2017
  l0 : 0 ≤ s.low
  top : s.low + s.wide ≤ 256 ^ (s.n + 4)

theorem chNew_ok {p : Int} (b : Bool) (h : 31 ≤ p ∧ p ≤ 2017) : 31 ≤ chNew p b ∧ chNew p b ≤ 2017 := by
  unfold chNew
  cases b
  · simp only [Bool.false_eq_true, if_false]; omega
  · simp only [if_true]; omega
theorem prob_ok {s : CS N} (h : Ok s) (o : Option N) : 31 ≤ prob o s ∧ prob o s ≤ 2017 := by
  cases o with
  | none =>
    show (31 : Int) ≤ 1024 ∧ (1024 : Int) ≤ 2017
    decide
  | some x => exact h.ch x
theorem part_ok {s : CS N} (h : Ok s) (o : Option N) : 253952 ≤ part o s ∧ part o s ≤ s.wide - 253952 := by
  obtain ⟨p1, p2⟩ := prob_ok h o
  have h1 := h.lo
  unfold part
  generalize hq : s.wide / 2048 = q
  generalize prob o s = p at p1 p2
  have q1 : 8192 ≤ q := by omega
  have a1 : q * 31 ≤ q * p := Int.mul_le_mul_of_nonneg_left p1 (by omega)
  have a2 : q * p ≤ q * 2017 := Int.mul_le_mul_of_nonneg_left p2 (by omega)
  omega
theorem pow_pos (k : Nat) : (0 : Int) < 256 ^ k := Int.pow_pos (by decide)
theorem chUp_ok {s : CS N} (h : Ok s) (o : Option N) (b : Bool) : ∀ x, 31 ≤ chUp o b s x ∧ chUp o b s x ≤ 2017 := by
  intro x
  cases o with
  | none => exact h.ch x
  | some y =>
    show 31 ≤ (if x = y then chNew (s.ch y) b else s.ch x) ∧ (if x = y then chNew (s.ch y) b else s.ch x) ≤ 2017
    by_cases e : x = y
    · rw [if_pos e]; exact chNew_ok b (h.ch y)
    · rw [if_neg e]; exact h.ch x
/-- ahead of the widening -/
theorem pre_ok {s : CS N} (h : Ok s) (o : Option N) (b : Bool) : 253952 ≤ wide1 o b s ∧ wide1 o b s ≤ s.wide ∧ s.low ≤ low1 o b s ∧ low1 o b s + wide1 o b s ≤ s.low + s.wide := by
  obtain ⟨p1, p2⟩ := part_ok h o
  unfold wide1 low1
  cases b
  · simp only [Bool.false_eq_true, if_false]; omega
  · simp only [if_true]; omega
theorem Ok.step {s : CS N} (h : Ok s) (o : Option N) (b : Bool) : Ok (step o b s) := by
  obtain ⟨p1, p2, p3, p4⟩ := pre_ok h o b
  have := h.hi; have := h.l0; have ht := h.top
  unfold K4.step renorm
  by_cases c : wide1 o b s < 16777216
  · rw [if_pos c]
    refine ⟨by show 16777216 ≤ wide1 o b s * 256; omega, by show wide1 o b s * 256 ≤ 4294967296; omega, chUp_ok h o b, by show 0 ≤ low1 o b s * 256; omega, ?_⟩
    show low1 o b s * 256 + wide1 o b s * 256 ≤ 256 ^ (s.n + 1 + 4)
    rw [show s.n + 1 + 4 = (s.n + 4) + 1 from by omega, Int.pow_succ]
    omega
  · rw [if_neg c]
    exact ⟨by show 16777216 ≤ wide1 o b s; omega, by show wide1 o b s ≤ 4294967296; omega, chUp_ok h o b, by show 0 ≤ low1 o b s; omega, by show low1 o b s + wide1 o b s ≤ 256 ^ (s.n + 4); omega⟩
theorem step_n (o : Option N) (b : Bool) (s : CS N) : s.n ≤ (step o b s).n ∧ (step o b s).n ≤ s.n + 1 := by
  unfold step renorm
  by_cases c : wide1 o b s < 16777216
  · rw [if_pos c]; exact ⟨Nat.le_succ _, Nat.le_refl _⟩
  · rw [if_neg c]; exact ⟨Nat.le_refl _, Nat.le_succ _⟩

theorem step_m (o : Option N) (b : Bool) (s : CS N) : (step o b s).m = s.m + 1 := by
  unfold step renorm
  split <;> rfl
theorem step_ch (o : Option N) (b : Bool) (s : CS N) : (step o b s).ch = chUp o b s := by
  unfold step renorm
  split <;> rfl

/-! letters, noughts behind them -/
def Bytes (f : Nat → Int) : Prop := ∀ i, 0 ≤ f i ∧ f i < 256
def codeAt (f : Nat → Int) : Nat → Int
  | 0 => 0
  | m + 1 => codeAt f m * 256 + f m
def In (f : Nat → Int) (s : CS N) : Prop := s.low ≤ codeAt f (s.n + 4) ∧ codeAt f (s.n + 4) < s.low + s.wide
def rd (f : Nat → Int) (o : Option N) (s : CS N) : Bool := decide (s.low + part o s ≤ codeAt f (s.n + 4))
theorem In_step {f : Nat → Int} (hf : Bytes f) {s : CS N} (h : Ok s) (o : Option N) (b : Bool) : In f (step o b s) ↔ (In f s ∧ rd f o s = b) := by
  obtain ⟨p1, p2⟩ := part_ok h o
  have key : (low1 o b s ≤ codeAt f (s.n + 4) ∧ codeAt f (s.n + 4) < low1 o b s + wide1 o b s) ↔ (In f s ∧ rd f o s = b) := by
    unfold In rd low1 wide1
    cases b
    · simp only [Bool.false_eq_true, if_false, decide_eq_false_iff_not]; omega
    · simp only [if_true, decide_eq_true_eq]; omega
  rw [← key]
  unfold step renorm
  by_cases c : wide1 o b s < 16777216
  · rw [if_pos c]
    unfold In
    show low1 o b s * 256 ≤ codeAt f (s.n + 1 + 4) ∧ codeAt f (s.n + 1 + 4) < low1 o b s * 256 + wide1 o b s * 256 ↔ _
    have e : codeAt f (s.n + 1 + 4) = codeAt f (s.n + 4) * 256 + f (s.n + 4) := by
      rw [show s.n + 1 + 4 = (s.n + 4) + 1 from by omega]
      rfl
    obtain ⟨b1, b2⟩ := hf (s.n + 4)
    rw [e]
    omega
  · rw [if_neg c]
    exact Iff.rfl

/-! trees -/
inductive T (N α : Type) where
  | ret (a : α)
  | ask (o : Option N) (k : Bool → T N α)
def T.bind : T N α → (α → T N β) → T N β
  | .ret a, g => g a
  | .ask o k, g => .ask o fun b => (k b).bind g
def run (f : Nat → Int) : T N α → CS N → α × CS N
  | .ret a, s => (a, s)
  | .ask o k, s => run f (k (rd f o s)) (step o (rd f o s) s)
theorem run_bind (f : Nat → Int) : ∀ (t : T N α) (g : α → T N β) (s : CS N), run f (t.bind g) s = run f (g (run f t s).1) (run f t s).2
  | .ret _, _, _ => rfl
  | .ask o k, g, s => run_bind f (k (rd f o s)) g _
abbrev Path (N : Type) := List (Option N × Bool)
def walk : T N α → Path N → Option α
  | .ret a, [] => some a
  | .ret _, _ :: _ => none
  | .ask _ _, [] => none
  | .ask o k, (o', b) :: r => if o = o' then walk (k b) r else none
def steps (s : CS N) (π : Path N) : CS N := π.foldl (fun s q => step q.1 q.2 s) s
theorem steps_nil (s : CS N) : steps s [] = s := rfl
theorem steps_cons (s : CS N) (o : Option N) (b : Bool) (π : Path N) : steps s ((o, b) :: π) = steps (step o b s) π := rfl
theorem steps_append (s : CS N) (π ρ : Path N) : steps s (π ++ ρ) = steps (steps s π) ρ := by
  unfold steps; rw [List.foldl_append]
theorem Ok.steps {s : CS N} (h : Ok s) : ∀ (π : Path N), Ok (steps s π) := by
  intro π
  induction π generalizing s with
  | nil => exact h
  | cons q r ih => exact ih (h.step q.1 q.2)
theorem steps_n (s : CS N) (π : Path N) : (steps s π).n ≤ s.n + π.length := by
  induction π generalizing s with
  | nil => exact Nat.le_refl _
  | cons q r ih =>
    have h1 := ih (step q.1 q.2 s)
    have h2 := (step_n q.1 q.2 s).2
    show (steps (step q.1 q.2 s) r).n ≤ s.n + (r.length + 1)
    omega
theorem steps_m (s : CS N) (π : Path N) : (steps s π).m = s.m + π.length := by
  induction π generalizing s with
  | nil => rfl
  | cons q r ih =>
    show (steps (step q.1 q.2 s) r).m = s.m + (r.length + 1)
    rw [ih, step_m]
    omega
/-- all ways through a tree are at most d long -/
def Len (t : T N α) (d : Nat) : Prop := ∀ π a, walk t π = some a → π.length ≤ d
theorem run_way (f : Nat → Int) : ∀ (t : T N α) (s : CS N), ∃ π, walk t π = some (run f t s).1 ∧ (run f t s).2 = steps s π
  | .ret a, s => ⟨[], rfl, rfl⟩
  | .ask o k, s => by
    obtain ⟨π, h1, h2⟩ := run_way f (k (rd f o s)) (step o (rd f o s) s)
    refine ⟨(o, rd f o s) :: π, ?_, h2⟩
    show (if o = o then walk (k (rd f o s)) π else none) = _
    rw [if_pos rfl]
    exact h1
theorem Ok.run {s : CS N} (h : Ok s) (f : Nat → Int) (t : T N α) : Ok (run f t s).2 := by
  obtain ⟨π, _, e⟩ := run_way f t s
  rw [e]
  exact h.steps π
theorem run_m {t : T N α} {d : Nat} (h : Len t d) (f : Nat → Int) (s : CS N) : (run f t s).2.m ≤ s.m + d := by
  obtain ⟨π, w, e⟩ := run_way f t s
  rw [e, steps_m]
  have := h π _ w
  omega
theorem In_of_steps {f : Nat → Int} (hf : Bytes f) : ∀ (π : Path N) {s : CS N}, Ok s → In f (steps s π) → In f s
  | [], _, _, h => h
  | (o, b) :: r, s, hs, h => ((In_step hf hs o b).mp (In_of_steps hf r (hs.step o b) h)).1
theorem run_path {f : Nat → Int} (hf : Bytes f) : ∀ (t : T N α) {s : CS N}, Ok s → In f s → ∃ π, walk t π = some (run f t s).1 ∧ (run f t s).2 = steps s π ∧ In f (steps s π)
  | .ret a, s, _, h => ⟨[], rfl, rfl, h⟩
  | .ask o k, s, hs, h => by
    obtain ⟨π, h1, h2, h3⟩ := run_path hf (k (rd f o s)) (hs.step o (rd f o s)) ((In_step hf hs o _).mpr ⟨h, rfl⟩)
    refine ⟨(o, rd f o s) :: π, ?_, h2, h3⟩
    show (if o = o then walk (k (rd f o s)) π else none) = _
    rw [if_pos rfl]
    exact h1
theorem run_of {f : Nat → Int} (hf : Bytes f) : ∀ (π : Path N) {t : T N α} {s : CS N} {a : α}, Ok s → walk t π = some a → In f (steps s π) → run f t s = (a, steps s π)
  | [], .ret a, s, a', _, hw, _ => by
    cases hw
    rfl
  | [], .ask _ _, _, _, _, hw, _ => by cases hw
  | _ :: _, .ret _, _, _, _, hw, _ => by cases hw
  | (o', b) :: r, .ask o k, s, a, hs, hw, hi => by
    have hw' : (if o = o' then walk (k b) r else none) = some a := hw
    by_cases e : o = o'
    · subst e
      rw [if_pos rfl] at hw'
      have hi' : In f (steps (step o b s) r) := hi
      have hb := ((In_step hf hs o b).mp (In_of_steps hf r (hs.step o b) hi')).2
      show run f (k (rd f o s)) (step o (rd f o s) s) = (a, steps (step o b s) r)
      rw [hb]
      exact run_of hf r (hs.step o b) hw' hi'
    · rw [if_neg e] at hw'
      cases hw'
theorem walk_bind : ∀ (t : T N α) (g : α → T N β) (π : Path N) (b : β), walk (t.bind g) π = some b ↔ ∃ π1 π2 a, π = π1 ++ π2 ∧ walk t π1 = some a ∧ walk (g a) π2 = some b
  | .ret a, g, π, b => by
    constructor
    · intro h
      exact ⟨[], π, a, rfl, rfl, h⟩
    · rintro ⟨π1, π2, a', rfl, h1, h2⟩
      cases π1 with
      | nil => cases h1; exact h2
      | cons q r => cases h1
  | .ask o k, g, π, b => by
    constructor
    · intro h
      cases π with
      | nil => cases h
      | cons q r =>
        obtain ⟨o', c⟩ := q
        have h' : (if o = o' then walk ((k c).bind g) r else none) = some b := h
        by_cases e : o = o'
        · subst e
          rw [if_pos rfl] at h'
          obtain ⟨π1, π2, a, e1, h1, h2⟩ := (walk_bind (k c) g r b).mp h'
          refine ⟨(o, c) :: π1, π2, a, by rw [e1]; rfl, ?_, h2⟩
          show (if o = o then walk (k c) π1 else none) = some a
          rw [if_pos rfl]; exact h1
        · rw [if_neg e] at h'; cases h'
    · rintro ⟨π1, π2, a, rfl, h1, h2⟩
      cases π1 with
      | nil => cases h1
      | cons q r =>
        obtain ⟨o', c⟩ := q
        have h' : (if o = o' then walk (k c) r else none) = some a := h1
        by_cases e : o = o'
        · subst e
          rw [if_pos rfl] at h'
          show (if o = o then walk ((k c).bind g) (r ++ π2) else none) = some b
          rw [if_pos rfl]
          exact (walk_bind (k c) g _ b).mpr ⟨r, π2, a, rfl, h', h2⟩
        · rw [if_neg e] at h'; cases h'

theorem Len.bind {t : T N α} {g : α → T N β} {d1 d2 : Nat} (h1 : Len t d1) (h2 : ∀ π a, walk t π = some a → Len (g a) d2) : Len (t.bind g) (d1 + d2) := fun π b h => by
  obtain ⟨π1, π2, a, rfl, w1, w2⟩ := (walk_bind _ _ _ _).mp h
  have := h1 π1 a w1
  have := h2 π1 a w1 π2 b w2
  rw [List.length_append]
  omega
theorem Len.mono {t : T N α} {d e : Nat} (h : Len t d) (hd : d ≤ e) : Len t e := fun π a w => Nat.le_trans (h π a w) hd
theorem Len.ret (a : α) : Len (T.ret a : T N α) 0 := fun π b h => by
  cases π with
  | nil => exact Nat.le_refl _
  | cons q r => cases h
theorem Len.ask {o : Option N} {k : Bool → T N α} {d : Nat} (h : ∀ b, Len (k b) d) : Len (T.ask o k) (d + 1) := fun π b w => by
  cases π with
  | nil => exact Nat.zero_le _
  | cons q r =>
    obtain ⟨o', c⟩ := q
    have w' : (if o = o' then walk (k c) r else none) = some b := w
    by_cases e : o = o'
    · rw [if_pos e] at w'
      exact Nat.succ_le_succ (h c r b w')
    · rw [if_neg e] at w'; cases w'

/-! trees that tell whether a sign was odd -/
abbrev TO (N α : Type) := T N (α × Bool)
def retO (a : α) : TO N α := .ret (a, false)
def bindO (t : TO N α) (g : α → TO N β) : TO N β := t.bind fun p => (g p.1).bind fun q => .ret (q.1, p.2 || q.2)
theorem run_bindO (f : Nat → Int) (t : TO N α) (g : α → TO N β) (s : CS N) : run f (bindO t g) s =
    (((run f (g (run f t s).1.1) (run f t s).2).1.1, (run f t s).1.2 || (run f (g (run f t s).1.1) (run f t s).2).1.2), (run f (g (run f t s).1.1) (run f t s).2).2) := by
  unfold bindO
  rw [run_bind, run_bind]
  rfl
theorem Len.bindO {t : TO N α} {g : α → TO N β} {d1 d2 : Nat} (h1 : Len t d1) (h2 : ∀ a, Len (g a) d2) : Len (bindO t g) (d1 + d2) :=
  Len.bind h1 fun _ p _ => (Len.bind (h2 p.1) (d2 := 0) fun _ q _ => Len.ret _).mono (Nat.le_refl _)
/-- t reads just what enc writes of the values v with V v -/
structure Codec (t : TO N α) (enc : α → Path N) (V : α → Prop) : Prop where
  uniq : ∀ π a, walk t π = some (a, false) → π = enc a
  val : ∀ π a o, walk t π = some (a, o) → V a
  back : ∀ a, V a → walk t (enc a) = some (a, false)
theorem Codec.bind {t : TO N α} {g : α → TO N β} {e1 : α → Path N} {e2 : α → β → Path N} {V1 : α → Prop} {V2 : α → β → Prop} (pr : β → α) (h1 : Codec t e1 V1) (h2 : ∀ a, V1 a → Codec (g a) (e2 a) (V2 a)) (hp : ∀ a b, V1 a → V2 a b → pr b = a)
    {V : β → Prop} (hV : ∀ b, V b ↔ (V1 (pr b) ∧ V2 (pr b) b)) {enc : β → Path N} (he : ∀ b, V b → enc b = e1 (pr b) ++ e2 (pr b) b) : Codec (bindO t g) enc V where
  uniq := fun π b h => by
    obtain ⟨π1, π2, ⟨a, o1⟩, rfl, w1, w2⟩ := (walk_bind _ _ _ _).mp h
    obtain ⟨π3, π4, ⟨b', o2⟩, rfl, w3, w4⟩ := (walk_bind _ _ _ _).mp w2
    cases π4 with
    | cons q r => cases w4
    | nil =>
      have e := Option.some.inj w4
      have eb : b' = b := congrArg Prod.fst e
      have eo : (o1 || o2) = false := congrArg Prod.snd e
      subst eb
      rw [Bool.or_eq_false_iff] at eo
      obtain ⟨rfl, rfl⟩ := eo
      have v1 := h1.val _ _ _ w1
      have v2 := (h2 a v1).val _ _ _ w3
      have epr := hp a b' v1 v2
      have u1 := h1.uniq _ _ w1
      have u2 := (h2 a v1).uniq _ _ w3
      rw [he b' ((hV b').mpr (by rw [epr]; exact ⟨v1, v2⟩)), epr, u1, u2, List.append_nil]
  val := fun π b o h => by
    obtain ⟨π1, π2, ⟨a, o1⟩, rfl, w1, w2⟩ := (walk_bind _ _ _ _).mp h
    obtain ⟨π3, π4, ⟨b', o2⟩, rfl, w3, w4⟩ := (walk_bind _ _ _ _).mp w2
    cases π4 with
    | cons q r => cases w4
    | nil =>
      have e := Option.some.inj w4
      have eb : b' = b := congrArg Prod.fst e
      subst eb
      have v1 := h1.val _ _ _ w1
      have v2 := (h2 a v1).val _ _ _ w3
      exact (hV b').mpr (by rw [hp a b' v1 v2]; exact ⟨v1, v2⟩)
  back := fun b hb => by
    obtain ⟨v1, v2⟩ := (hV b).mp hb
    rw [he b hb]
    refine (walk_bind _ _ _ _).mpr ⟨e1 (pr b), e2 (pr b) b, (pr b, false), rfl, h1.back _ v1, ?_⟩
    refine (walk_bind _ _ _ _).mpr ⟨e2 (pr b) b, [], (b, false), (List.append_nil _).symm, (h2 _ v1).back _ v2, rfl⟩
theorem Codec.ret {a : α} : Codec (retO a : TO N α) (fun _ => []) (fun b => b = a) where
  uniq := fun π b h => by cases π with
    | nil => rfl
    | cons q r => cases h
  val := fun π b o h => by cases π with
    | nil => exact (congrArg Prod.fst (Option.some.inj h)).symm
    | cons q r => cases h
  back := fun b hb => by subst hb; rfl
theorem Codec.ask {o : Option N} {k : Bool → TO N α} {e : Bool → α → Path N} {V : Bool → α → Prop} (pr : α → Bool) (h : ∀ b, Codec (k b) (e b) (V b)) (hp : ∀ b a, V b a → pr a = b) {W : α → Prop} (hW : ∀ a, W a ↔ V (pr a) a)
    {enc : α → Path N} (he : ∀ a, W a → enc a = (o, pr a) :: e (pr a) a) : Codec (T.ask o k) enc W where
  uniq := fun π a h' => by cases π with
    | nil => cases h'
    | cons q r =>
      obtain ⟨o', b⟩ := q
      have h2 : (if o = o' then K4.walk (k b) r else none) = some (a, false) := h'
      by_cases eo : o = o'
      · subst eo
        rw [if_pos rfl] at h2
        have v := (h b).val _ _ _ h2
        have p := hp b a v
        rw [he a ((hW a).mpr (by rw [p]; exact v)), p, (h b).uniq _ _ h2]
      · rw [if_neg eo] at h2; cases h2
  val := fun π a o1 h' => by cases π with
    | nil => cases h'
    | cons q r =>
      obtain ⟨o', b⟩ := q
      have h2 : (if o = o' then K4.walk (k b) r else none) = some (a, o1) := h'
      by_cases eo : o = o'
      · subst eo
        rw [if_pos rfl] at h2
        have v := (h b).val _ _ _ h2
        exact (hW a).mpr (by rw [hp b a v]; exact v)
      · rw [if_neg eo] at h2; cases h2
  back := fun a ha => by
    rw [he a ha]
    show (if o = o then K4.walk (k (pr a)) (e (pr a) a) else none) = _
    rw [if_pos rfl]
    exact (h (pr a)).back a ((hW a).mp ha)
theorem Codec.cast {t : TO N α} {e e' : α → Path N} {V V' : α → Prop} (h : Codec t e V) (hV : ∀ a, V' a ↔ V a) (he : ∀ a, V a → e' a = e a) : Codec t e' V' where
  uniq := fun π a w => by rw [he a (h.val _ _ _ w)]; exact h.uniq π a w
  val := fun π a o w => (hV a).mpr (h.val _ _ _ w)
  back := fun a ha => by rw [he a ((hV a).mp ha)]; exact h.back a ((hV a).mp ha)
end
end K4
/-! The least letters of a part. -/
namespace K4
section
variable {N : Type} [DecidableEq N]
def val (l : List Int) : Int := l.foldl (fun a x => a * 256 + x) 0
def fn (l : List Int) : Nat → Int := fun i => l.getD i 0
def BytesL (l : List Int) : Prop := ∀ x ∈ l, 0 ≤ x ∧ x < 256
def digs : Int → Nat → List Int
  | _, 0 => []
  | v, m + 1 => digs (v / 256) m ++ [v % 256]
theorem digs_length : ∀ (m : Nat) (v : Int), (digs v m).length = m
  | 0, _ => rfl
  | m + 1, v => by
    show (digs (v / 256) m ++ [v % 256]).length = m + 1
    rw [List.length_append, digs_length m]; rfl
theorem digs_bytes : ∀ (m : Nat) (v : Int), BytesL (digs v m)
  | 0, _ => fun _ h => nomatch h
  | m + 1, v => fun x h => by
    have h' : x ∈ digs (v / 256) m ++ [v % 256] := h
    rcases List.mem_append.mp h' with h | h
    · exact digs_bytes m _ x h
    · have e : x = v % 256 := by simpa using h
      omega
theorem val_snoc (l : List Int) (x : Int) : val (l ++ [x]) = val l * 256 + x := by
  unfold val; rw [List.foldl_append]; rfl
theorem val_digs : ∀ (m : Nat) (v : Int), 0 ≤ v → v < 256 ^ m → val (digs v m) = v
  | 0, v, h0, h1 => by
    have : v < 1 := by simpa using h1
    show (0 : Int) = v
    omega
  | m + 1, v, h0, h1 => by
    rw [Int.pow_succ] at h1
    show val (digs (v / 256) m ++ [v % 256]) = v
    rw [val_snoc, val_digs m (v / 256) (by omega) (by omega)]
    omega
theorem fn_bytes {l : List Int} (h : BytesL l) : Bytes (fn l) := fun i => by
  unfold fn
  by_cases hi : i < l.length
  · rw [List.getD_eq_getElem?_getD, List.getElem?_eq_getElem hi]
    exact h _ (List.getElem_mem hi)
  · rw [List.getD_eq_getElem?_getD, List.getElem?_eq_none (by omega)]
    exact ⟨Int.le_refl _, by decide⟩
theorem val_nonneg {l : List Int} (h : BytesL l) : 0 ≤ val l := by
  have : ∀ (l : List Int) (a : Int), BytesL l → 0 ≤ a → 0 ≤ l.foldl (fun a x => a * 256 + x) a := by
    intro l
    induction l with
    | nil => intro a _ ha; exact ha
    | cons x r ih =>
      intro a hl ha
      have hx := hl x List.mem_cons_self
      exact ih (a * 256 + x) (fun y hy => hl y (List.mem_cons_of_mem _ hy)) (by omega)
  exact this l 0 h (Int.le_refl _)
theorem codeAt_take (l : List Int) : ∀ m, m ≤ l.length → codeAt (fn l) m = val (l.take m)
  | 0, _ => by simp [codeAt, val]
  | m + 1, h => by
    have hm : m < l.length := h
    show codeAt (fn l) m * 256 + fn l m = _
    rw [codeAt_take l m (by omega), List.take_succ_eq_append_getElem hm, val_snoc]
    unfold fn
    rw [List.getD_eq_getElem?_getD, List.getElem?_eq_getElem hm]
    rfl
theorem codeAt_over (l : List Int) : ∀ k, codeAt (fn l) (l.length + k) = val l * 256 ^ k
  | 0 => by rw [Nat.add_zero, codeAt_take l _ (Nat.le_refl _), List.take_length]; simp
  | k + 1 => by
    show codeAt (fn l) (l.length + k) * 256 + fn l (l.length + k) = _
    rw [codeAt_over l k]
    have : fn l (l.length + k) = 0 := by
      unfold fn
      rw [List.getD_eq_getElem?_getD, List.getElem?_eq_none (by omega)]; rfl
    rw [this, Int.pow_succ, Int.add_zero, Int.mul_assoc]
/-! what Writer.letters does -/
def cdiv (a u : Int) : Int := (a + u - 1) / u
def unitOf (s : CS N) (m : Nat) : Int := 256 ^ (s.n + 4 - m)
def fits (s : CS N) (m : Nat) : Bool := decide (cdiv s.low (unitOf s m) * unitOf s m < s.low + s.wide)
def manyGo (s : CS N) : Nat → Nat → Nat
  | 0, m => m
  | d + 1, m => if fits s m = true then m else manyGo s d (m + 1)
def many (s : CS N) : Nat := manyGo s (s.n + 4) 0
def ownOf (s : CS N) : List Int := digs (cdiv s.low (unitOf s (many s))) (many s)
theorem cdiv_le {a u z : Int} (hu : 0 < u) (h : a ≤ z * u) : cdiv a u ≤ z := by
  unfold cdiv
  have h1 : a + u - 1 < (z + 1) * u := by rw [Int.add_mul]; omega
  exact Int.lt_add_one_iff.mp (Int.ediv_lt_of_lt_mul hu h1)
theorem le_cdiv {a u : Int} (hu : 0 < u) : a ≤ cdiv a u * u := by
  unfold cdiv
  have h1 := Int.emod_lt_of_pos (a + u - 1) hu
  have h2 := Int.mul_ediv_add_emod (a + u - 1) u
  rw [Int.mul_comm] at h2
  omega
theorem unit_pos (s : CS N) (m : Nat) : 0 < unitOf s m := pow_pos _
theorem fits_last {s : CS N} (h : Ok s) : fits s (s.n + 4) = true := by
  unfold fits unitOf cdiv
  have := h.lo
  simp
  omega
theorem manyGo_spec (s : CS N) : ∀ (d m : Nat), fits s (m + d) = true → fits s (manyGo s d m) = true ∧ m ≤ manyGo s d m ∧ manyGo s d m ≤ m + d ∧ ∀ k, m ≤ k → k < manyGo s d m → fits s k = false
  | 0, m, h => ⟨h, Nat.le_refl _, Nat.le_refl _, fun k h1 h2 => absurd (Nat.lt_of_le_of_lt h1 h2) (Nat.lt_irrefl _)⟩
  | d + 1, m, h => by
    show fits s (if fits s m = true then m else manyGo s d (m + 1)) = true ∧ m ≤ (if fits s m = true then m else manyGo s d (m + 1)) ∧ (if fits s m = true then m else manyGo s d (m + 1)) ≤ m + (d + 1) ∧ ∀ k, m ≤ k → k < (if fits s m = true then m else manyGo s d (m + 1)) → fits s k = false
    by_cases c : fits s m = true
    · rw [if_pos c]
      exact ⟨c, Nat.le_refl _, by omega, fun k h1 h2 => absurd (Nat.lt_of_le_of_lt h1 h2) (Nat.lt_irrefl _)⟩
    · rw [if_neg c]
      obtain ⟨a1, a2, a3, a4⟩ := manyGo_spec s d (m + 1) (by rw [show m + 1 + d = m + (d + 1) from by omega]; exact h)
      refine ⟨a1, by omega, by omega, fun k h1 h2 => ?_⟩
      by_cases e : k = m
      · rw [e]; simpa using c
      · exact a4 k (by omega) h2
theorem many_spec {s : CS N} (h : Ok s) : fits s (many s) = true ∧ many s ≤ s.n + 4 ∧ ∀ k, k < many s → fits s k = false := by
  obtain ⟨a1, a2, a3, a4⟩ := manyGo_spec s (s.n + 4) 0 (by rw [Nat.zero_add]; exact fits_last h)
  exact ⟨a1, by rw [Nat.zero_add] at a3; exact a3, fun k hk => a4 k (Nat.zero_le _) hk⟩
theorem own_length (s : CS N) : (ownOf s).length = many s := digs_length _ _
theorem own_bytes (s : CS N) : BytesL (ownOf s) := digs_bytes _ _
theorem unit_mul {s : CS N} {m : Nat} (hm : m ≤ s.n + 4) : (256 : Int) ^ m * unitOf s m = 256 ^ (s.n + 4) := by
  unfold unitOf
  rw [← Int.pow_add, show m + (s.n + 4 - m) = s.n + 4 from by omega]
theorem own_top {s : CS N} (h : Ok s) : 0 ≤ cdiv s.low (unitOf s (many s)) ∧ cdiv s.low (unitOf s (many s)) < 256 ^ many s := by
  obtain ⟨f1, f2, _⟩ := many_spec h
  have f1' := of_decide_eq_true f1
  have hu := unit_pos s (many s)
  have ht := h.top
  have h0 := h.l0
  constructor
  · unfold cdiv
    exact Int.ediv_nonneg (by omega) (by omega)
  · have h2 : cdiv s.low (unitOf s (many s)) * unitOf s (many s) < 256 ^ many s * unitOf s (many s) := by
      rw [unit_mul f2]; omega
    exact Int.lt_of_mul_lt_mul_right h2 (by omega)
theorem own_val {s : CS N} (h : Ok s) : val (ownOf s) = cdiv s.low (unitOf s (many s)) := val_digs _ _ (own_top h).1 (own_top h).2
/-- the code of letters no longer than what counts -/
theorem code_short {s : CS N} {l : List Int} (h : l.length ≤ s.n + 4) : codeAt (fn l) (s.n + 4) = val l * unitOf s l.length := by
  have e := codeAt_over l (s.n + 4 - l.length)
  rw [show l.length + (s.n + 4 - l.length) = s.n + 4 from by omega] at e
  exact e
theorem own_In {s : CS N} (h : Ok s) : In (fn (ownOf s)) s := by
  obtain ⟨f1, f2, _⟩ := many_spec h
  have e := code_short (s := s) (l := ownOf s) (by rw [own_length]; exact f2)
  unfold In
  rw [e, own_val h, own_length]
  exact ⟨le_cdiv (unit_pos s _), of_decide_eq_true f1⟩
/-- no letters of the part are shorter, or as long and less -/
theorem own_least {s : CS N} (h : Ok s) {l : List Int} (hi : In (fn l) s) : many s ≤ l.length ∧ (l.length = many s → val (ownOf s) ≤ val l) := by
  obtain ⟨f1, f2, f3⟩ := many_spec h
  by_cases hl : l.length ≤ s.n + 4
  · have e := code_short (s := s) (l := l) hl
    unfold In at hi
    rw [e] at hi
    have hu := unit_pos s l.length
    have hc := cdiv_le hu hi.1
    have hfit : fits s l.length = true := by
      refine decide_eq_true (Int.lt_of_le_of_lt (Int.mul_le_mul_of_nonneg_right hc (by omega)) hi.2)
    constructor
    · refine Nat.le_of_not_lt fun q => ?_
      rw [f3 _ q] at hfit
      cases hfit
    · intro em
      rw [own_val h, ← em]
      exact hc
  · exact ⟨by omega, fun em => by omega⟩
/-! the order of rows of one length -/
def lexLe : List Int → List Int → Bool
  | [], _ => true
  | _ :: _, [] => false
  | a :: r, b :: q => decide (a < b) || (decide (a = b) && lexLe r q)
theorem val_cons (x : Int) (l : List Int) : val (x :: l) = x * 256 ^ l.length + val l := by
  have : ∀ (l : List Int) (a : Int), l.foldl (fun a x => a * 256 + x) a = a * 256 ^ l.length + l.foldl (fun a x => a * 256 + x) 0 := by
    intro l
    induction l with
    | nil => intro a; simp
    | cons y r ih =>
      intro a
      show r.foldl _ (a * 256 + y) = a * 256 ^ (r.length + 1) + r.foldl _ (0 * 256 + y)
      rw [ih (a * 256 + y), ih (0 * 256 + y), Int.pow_succ, Int.add_mul, Int.zero_mul, Int.zero_add, Int.mul_assoc, Int.mul_comm 256, Int.add_assoc]
  show l.foldl _ (0 * 256 + x) = _
  rw [Int.zero_mul, Int.zero_add, this l x]
  rfl
theorem val_lt {l : List Int} (h : BytesL l) : val l < 256 ^ l.length := by
  induction l with
  | nil => decide
  | cons x r ih =>
    have hx := h x List.mem_cons_self
    have hr := ih fun y hy => h y (List.mem_cons_of_mem _ hy)
    rw [val_cons, List.length_cons, Int.pow_succ]
    have hp := pow_pos r.length
    generalize (256 : Int) ^ r.length = p at hr hp
    have : x * p ≤ 255 * p := Int.mul_le_mul_of_nonneg_right (by omega) (by omega)
    omega
theorem lexLe_of_val : ∀ {l m : List Int}, l.length = m.length → BytesL l → BytesL m → val l ≤ val m → lexLe l m = true
  | [], _, _, _, _, _ => rfl
  | a :: r, [], e, _, _, _ => by cases e
  | a :: r, b :: q, e, hl, hm, hv => by
    have e' : r.length = q.length := Nat.succ.inj e
    have hr := fun y hy => hl y (List.mem_cons_of_mem _ hy)
    have hq := fun y hy => hm y (List.mem_cons_of_mem _ hy)
    rw [val_cons, val_cons, e'] at hv
    have b1 := val_lt (l := q) hq
    have b2 := val_nonneg (l := r) hr
    have hp := pow_pos q.length
    show (decide (a < b) || (decide (a = b) && lexLe r q)) = true
    rcases Int.lt_trichotomy a b with h | h | h
    · simp [h]
    · subst h
      have := lexLe_of_val e' hr hq (by omega)
      simp [this]
    · exfalso
      have : (b + 1) * 256 ^ q.length ≤ a * 256 ^ q.length := Int.mul_le_mul_of_nonneg_right (by omega) (by omega)
      rw [Int.add_mul] at this
      omega
end
end K4
/-! What is read and written: numbers, rests, vectors, choices. -/
namespace K4
section
variable {N : Type} [DecidableEq N]
/-! numbers -/
def lg (v : Int) : Nat := v.toNat.log2
def upT (nm : Nat → N) : Nat → Nat → T N Nat
  | 0, k => .ret k
  | d + 1, k => .ask (some (nm k)) fun b => if b = true then upT nm d (k + 1) else .ret k
def upE (nm : Nat → N) : Nat → Nat → Nat → Path N
  | 0, _, _ => []
  | d + 1, k, j => if k < j then (some (nm k), true) :: upE nm d (k + 1) j else [(some (nm k), false)]
def b2i (b : Bool) : Int := if b = true then 1 else 0
def evT : Nat → Int → T N Int
  | 0, v => .ret v
  | m + 1, v => .ask none fun b => evT m (2 * v + b2i b)
def lowF (r : Int) : Nat → List Bool
  | 0 => []
  | m + 1 => decide (r / 2 ^ m % 2 = 1) :: lowF r m
def evE (r : Int) (m : Nat) : Path N := (lowF r m).map fun b => (none, b)
def numT (nm : Nat → N) (most : Int) : TO N Int := (upT nm (lg (most + 1)) 0).bind fun k => (evT k 1).bind fun v => .ret (min (v - 1) most, decide (most < v - 1))
def numE (nm : Nat → N) (most n : Int) : Path N := upE nm (lg (most + 1)) 0 (lg (n + 1)) ++ evE (n + 1) (lg (n + 1))
theorem up_walk (nm : Nat → N) : ∀ (d k : Nat) (π : Path N) (j : Nat), walk (upT nm d k) π = some j ↔ (k ≤ j ∧ j ≤ k + d ∧ π = upE nm d k j)
  | 0, k, π, j => by
    constructor
    · intro h
      cases π with
      | nil => cases h; exact ⟨Nat.le_refl _, Nat.le_refl _, rfl⟩
      | cons q r => cases h
    · rintro ⟨h1, h2, rfl⟩
      have : j = k := by omega
      subst this; rfl
  | d + 1, k, π, j => by
    constructor
    · intro h
      cases π with
      | nil => cases h
      | cons q r =>
        obtain ⟨o, b⟩ := q
        have h' : (if some (nm k) = o then walk (if b = true then upT nm d (k + 1) else .ret k) r else none) = some j := h
        by_cases e : some (nm k) = o
        · subst e
          rw [if_pos rfl] at h'
          cases b with
          | true =>
            rw [if_pos rfl] at h'
            obtain ⟨a1, a2, a3⟩ := (up_walk nm d (k + 1) r j).mp h'
            refine ⟨by omega, by omega, ?_⟩
            show _ = if k < j then (some (nm k), true) :: upE nm d (k + 1) j else [(some (nm k), false)]
            rw [if_pos (by omega), a3]
          | false =>
            rw [if_neg (by decide)] at h'
            cases r with
            | nil =>
              cases h'
              refine ⟨Nat.le_refl _, by omega, ?_⟩
              show _ = if k < k then (some (nm k), true) :: upE nm d (k + 1) k else [(some (nm k), false)]
              rw [if_neg (Nat.lt_irrefl _)]
            | cons _ _ => cases h'
        · rw [if_neg e] at h'; cases h'
    · rintro ⟨h1, h2, rfl⟩
      show walk (T.ask (some (nm k)) fun b => if b = true then upT nm d (k + 1) else .ret k) (if k < j then (some (nm k), true) :: upE nm d (k + 1) j else [(some (nm k), false)]) = some j
      by_cases c : k < j
      · rw [if_pos c]
        show (if some (nm k) = some (nm k) then walk (if true = true then upT nm d (k + 1) else .ret k) (upE nm d (k + 1) j) else none) = some j
        rw [if_pos rfl, if_pos rfl]
        exact (up_walk nm d (k + 1) _ j).mpr ⟨c, by omega, rfl⟩
      · rw [if_neg c]
        have : j = k := by omega
        subst this
        show (if some (nm j) = some (nm j) then walk (if false = true then upT nm d (j + 1) else .ret j) [] else none) = some j
        rw [if_pos rfl, if_neg (by decide)]
        rfl
theorem p2 (m : Nat) : (0 : Int) < 2 ^ m := Int.pow_pos (by decide)
theorem div_unique {r q p : Int} (hp : 0 < p) (h1 : q * p ≤ r) (h2 : r < (q + 1) * p) : r / p = q := by
  have a1 : q ≤ r / p := (Int.le_ediv_iff_mul_le hp).mpr h1
  have a2 : r / p < q + 1 := Int.ediv_lt_of_lt_mul hp h2
  omega
theorem ev_walk : ∀ (m : Nat) (v : Int) (π : Path N) (r : Int), walk (evT m v : T N Int) π = some r ↔ (v * 2 ^ m ≤ r ∧ r < (v + 1) * 2 ^ m ∧ π = evE r m)
  | 0, v, π, r => by
    constructor
    · intro h
      cases π with
      | nil =>
        have e : v = r := Option.some.inj h
        refine ⟨by omega, by omega, rfl⟩
      | cons q r => cases h
    · rintro ⟨h1, h2, rfl⟩
      have : v = r := by omega
      subst this; rfl
  | m + 1, v, π, r => by
    have hp := p2 m
    have e2 : (2 : Int) ^ (m + 1) = 2 ^ m * 2 := Int.pow_succ ..
    constructor
    · intro h
      cases π with
      | nil => cases h
      | cons q t =>
        obtain ⟨o, b⟩ := q
        have h' : (if (none : Option N) = o then walk (evT m (2 * v + b2i b)) t else none) = some r := h
        by_cases e : (none : Option N) = o
        · subst e
          rw [if_pos rfl] at h'
          obtain ⟨a1, a2, a3⟩ := (ev_walk m _ t r).mp h'
          have d := div_unique hp a1 a2
          have hb : b = decide (r / 2 ^ m % 2 = 1) := by
            rw [d]
            cases b
            · exact (decide_eq_false (by simp only [b2i]; simp)).symm
            · exact (decide_eq_true (by simp only [b2i]; simp <;> omega)).symm
          refine ⟨?_, ?_, ?_⟩
          · rw [e2]
            generalize (2 : Int) ^ m = p at *
            have : v * (p * 2) ≤ (2 * v + b2i b) * p := by
              rw [Int.add_mul, Int.mul_comm 2 v, Int.mul_assoc v 2 p, Int.mul_comm 2 p]
              have : 0 ≤ b2i b * p := by cases b <;> simp [b2i] <;> omega
              omega
            omega
          · rw [e2]
            generalize (2 : Int) ^ m = p at *
            have : (2 * v + b2i b + 1) * p ≤ (v + 1) * (p * 2) := by
              have e3 : (v + 1) * (p * 2) = 2 * v * p + 2 * p := by
                rw [Int.add_mul, Int.one_mul, Int.mul_comm 2 v, Int.mul_assoc v 2 p, Int.mul_comm 2 p]
              rw [e3, Int.add_mul, Int.add_mul, Int.one_mul]
              have : b2i b * p ≤ p := by cases b <;> simp [b2i] <;> omega
              omega
            omega
          · rw [a3, hb]
            rfl
        · rw [if_neg e] at h'; cases h'
    · rintro ⟨h1, h2, rfl⟩
      show (if (none : Option N) = none then walk (evT m (2 * v + b2i (decide (r / 2 ^ m % 2 = 1)))) (evE r m) else none) = some r
      rw [if_pos rfl]
      rw [e2] at h1 h2
      have g1 : 2 * v ≤ r / 2 ^ m := (Int.le_ediv_iff_mul_le hp).mpr (by rw [Int.mul_comm 2 v, Int.mul_assoc, Int.mul_comm 2]; exact h1)
      have g2 : r / 2 ^ m < 2 * v + 2 := Int.ediv_lt_of_lt_mul hp (by
        have e3 : (v + 1) * (2 ^ m * 2) = (2 * v + 2) * 2 ^ m := by
          rw [show (2 * v + 2 : Int) = 2 * (v + 1) from by omega, Int.mul_comm 2 (v + 1), Int.mul_assoc (v + 1) 2, Int.mul_comm 2 (2 ^ m)]
        rw [← e3]; exact h2)
      have hb : 2 * v + b2i (decide (r / 2 ^ m % 2 = 1)) = r / 2 ^ m := by
        by_cases c : r / 2 ^ m % 2 = 1
        · rw [decide_eq_true c]; simp only [b2i, if_true]; omega
        · rw [decide_eq_false c]; simp only [b2i, Bool.false_eq_true, if_false]; omega
      rw [hb]
      refine (ev_walk m _ _ r).mpr ⟨Int.ediv_mul_le _ (by omega), ?_, rfl⟩
      have := Int.lt_ediv_add_one_mul_self r hp
      exact this
theorem lg_spec {v : Int} (h : 1 ≤ v) : 2 ^ lg v ≤ v ∧ v < 2 ^ (lg v + 1) := by
  have hn : v.toNat ≠ 0 := by omega
  obtain ⟨a, b⟩ := (Nat.log2_eq_iff hn).mp (rfl : v.toNat.log2 = lg v)
  have e : (v.toNat : Int) = v := by omega
  have a' : ((2 ^ lg v : Nat) : Int) ≤ (v.toNat : Int) := by exact_mod_cast a
  have b' : (v.toNat : Int) < ((2 ^ (lg v + 1) : Nat) : Int) := by exact_mod_cast b
  rw [e, Int.natCast_pow] at a' b'
  exact ⟨a', b'⟩
theorem lg_unique {v : Int} {k : Nat} (h1 : 2 ^ k ≤ v) (h2 : v < 2 ^ (k + 1)) : lg v = k := by
  have hp := p2 k
  have hn : v.toNat ≠ 0 := by omega
  have e : (v.toNat : Int) = v := by omega
  refine (Nat.log2_eq_iff hn).mpr ⟨?_, ?_⟩
  · have : ((2 ^ k : Nat) : Int) ≤ (v.toNat : Int) := by rw [e, Int.natCast_pow]; exact h1
    exact_mod_cast this
  · have : (v.toNat : Int) < ((2 ^ (k + 1) : Nat) : Int) := by rw [e, Int.natCast_pow]; exact h2
    exact_mod_cast this
theorem pow_le_of {a b : Nat} (h : (2 : Int) ^ a < 2 ^ (b + 1)) : a ≤ b := by
  refine Nat.le_of_not_lt fun q => ?_
  have e : a = (b + 1) + (a - (b + 1)) := by omega
  rw [e, Int.pow_add] at h
  have := p2 (b + 1)
  have h2 := p2 (a - (b + 1))
  have : (2 : Int) ^ (b + 1) * 1 ≤ 2 ^ (b + 1) * 2 ^ (a - (b + 1)) := Int.mul_le_mul_of_nonneg_left (by omega) (by omega)
  omega
theorem lg_mono {v w : Int} (h : 1 ≤ v) (hw : v ≤ w) : lg v ≤ lg w := by
  have a := lg_spec h
  have b := lg_spec (show 1 ≤ w by omega)
  exact pow_le_of (by omega)
theorem num_codec (nm : Nat → N) {most : Int} (h0 : 0 ≤ most) : Codec (numT nm most) (numE nm most) (fun n => 0 ≤ n ∧ n ≤ most) where
  uniq := fun π a h => by
    obtain ⟨π1, π2, k, rfl, w1, w2⟩ := (walk_bind _ _ _ _).mp h
    obtain ⟨π3, π4, v, rfl, w3, w4⟩ := (walk_bind _ _ _ _).mp w2
    cases π4 with
    | cons q r => cases w4
    | nil =>
      have e := Option.some.inj w4
      have e1 : min (v - 1) most = a := congrArg Prod.fst e
      have e2 : decide (most < v - 1) = false := congrArg Prod.snd e
      have e2' := of_decide_eq_false e2
      obtain ⟨a1, a2, a3⟩ := (up_walk nm _ _ _ _).mp w1
      obtain ⟨b1, b2, b3⟩ := (ev_walk _ _ _ _).mp w3
      have ev : v = a + 1 := by omega
      rw [Int.one_mul] at b1
      have b2' : v < 2 ^ (k + 1) := by rw [Int.pow_succ, Int.mul_comm]; exact b2
      have hk := lg_unique b1 b2'
      rw [a3, b3, List.append_nil]
      unfold numE
      rw [← ev, hk]
  val := fun π a o h => by
    obtain ⟨π1, π2, k, rfl, w1, w2⟩ := (walk_bind _ _ _ _).mp h
    obtain ⟨π3, π4, v, rfl, w3, w4⟩ := (walk_bind _ _ _ _).mp w2
    cases π4 with
    | cons q r => cases w4
    | nil =>
      have e := Option.some.inj w4
      have e1 : min (v - 1) most = a := congrArg Prod.fst e
      obtain ⟨b1, b2, b3⟩ := (ev_walk _ _ _ _).mp w3
      have hp := p2 k
      omega
  back := fun a ha => by
    obtain ⟨s1, s2⟩ := lg_spec (show 1 ≤ a + 1 by omega)
    refine (walk_bind _ _ _ _).mpr ⟨_, _, lg (a + 1), rfl, (up_walk nm _ _ _ _).mpr ⟨Nat.zero_le _, ?_, rfl⟩, ?_⟩
    · rw [Nat.zero_add]; exact lg_mono (by omega) (by omega)
    · refine (walk_bind _ _ _ _).mpr ⟨_, [], a + 1, (List.append_nil _).symm, (ev_walk _ _ _ _).mpr ⟨by rw [Int.one_mul]; exact s1, ?_, rfl⟩, ?_⟩
      · rw [Int.pow_succ, Int.mul_comm] at s2; exact s2
      · show some (min (a + 1 - 1) most, decide (most < a + 1 - 1)) = some (a, false)
        rw [decide_eq_false (by omega)]
        have : min (a + 1 - 1) most = a := by omega
        rw [this]
/-! a number and its sign -/
def snumT (nm : Nat → N) : TO N Int := bindO (numT nm 4000) fun n => if n = 0 then retO 0 else .ask none fun b => retO (if b = true then -n else n)
def absI (z : Int) : Int := if z < 0 then -z else z
def snumE (nm : Nat → N) (z : Int) : Path N := numE nm 4000 (absI z) ++ if z = 0 then [] else [(none, decide (z < 0))]
theorem snum_codec (nm : Nat → N) : Codec (snumT nm) (snumE nm) (fun z => -4000 ≤ z ∧ z ≤ 4000) := by
  refine Codec.bind (e2 := fun _ z => if z = 0 then [] else [(none, decide (z < 0))]) (V2 := fun n z => absI z = n) absI (num_codec nm (by decide)) (fun n hn => ?_) (fun a b _ h => h) (fun z => ?_) (fun _ _ => rfl)
  · by_cases c : n = 0
    · rw [if_pos c]
      refine (Codec.ret (a := (0 : Int))).cast (fun z => ?_) (fun z hz => by rw [if_pos hz])
      unfold absI; subst c
      constructor
      · intro h; split at h <;> omega
      · intro h; subst h; rfl
    · rw [if_neg c]
      refine Codec.ask (e := fun _ _ => []) (V := fun b z => z = if b = true then -n else n) (fun z => decide (z < 0)) (fun b => Codec.ret) (fun b z h => ?_) (fun z => ?_) (fun z hz => ?_)
      · subst h
        cases b
        · exact decide_eq_false (by simp; omega)
        · exact decide_eq_true (by simp; omega)
      · unfold absI
        by_cases cz : z < 0
        · rw [if_pos cz, decide_eq_true cz]; simp; omega
        · rw [if_neg cz, decide_eq_false cz]; simp
      · have hz' : absI z = n := hz
        have : z ≠ 0 := fun e => by subst e; exact c hz'.symm
        show (if z = 0 then _ else _) = _
        rw [if_neg this]
  · show _ ↔ (0 ≤ absI z ∧ absI z ≤ 4000) ∧ absI z = absI z
    unfold absI
    split <;> omega
/-! rests -/
def goT (nm : Nat → Nat → N) : List (Nat × Nat) → List Int → TO N (List Int)
  | [], found => retO found
  | (i, pl) :: q, found => bindO (snumT (nm i)) fun z => goT nm q (found.set pl z)
def goE (nm : Nat → Nat → N) : List (Nat × Nat) → List Int → Path N
  | [], _ => []
  | (i, pl) :: q, r => snumE (nm i) (r.getD pl 0) ++ goE nm q r
def goV (q : List (Nat × Nat)) (found r : List Int) : Prop := r.length = found.length ∧ (∀ i, (∀ e ∈ q, e.2 ≠ i) → r.getD i 0 = found.getD i 0) ∧ ∀ e ∈ q, -4000 ≤ r.getD e.2 0 ∧ r.getD e.2 0 ≤ 4000
theorem ext_getD {l m : List Int} (h1 : l.length = m.length) (h2 : ∀ i, l.getD i 0 = m.getD i 0) : l = m := by
  refine List.ext_getElem h1 fun i a b => ?_
  have := h2 i
  rw [List.getD_eq_getElem?_getD, List.getD_eq_getElem?_getD, List.getElem?_eq_getElem a, List.getElem?_eq_getElem b] at this
  exact this
theorem getD_set (l : List Int) (p i : Nat) (z : Int) : (l.set p z).getD i 0 = if p = i ∧ i < l.length then z else l.getD i 0 := by
  rw [List.getD_eq_getElem?_getD, List.getD_eq_getElem?_getD, List.getElem?_set]
  by_cases e : p = i
  · subst e
    by_cases h : p < l.length
    · simp [h]
    · simp [h]
  · simp [e]
theorem go_codec (nm : Nat → Nat → N) : ∀ (q : List (Nat × Nat)) (found : List Int), (q.map (·.2)).Nodup → (∀ e ∈ q, e.2 < found.length) → Codec (goT nm q found) (goE nm q) (goV q found)
  | [], found, _, _ => (Codec.ret (a := found)).cast (fun r => by
      constructor
      · rintro ⟨h1, h2, _⟩
        exact ext_getD h1 fun i => h2 i fun _ h => nomatch h
      · rintro rfl
        exact ⟨rfl, fun _ _ => rfl, fun _ h => nomatch h⟩) (fun _ _ => rfl)
  | (i, pl) :: q, found, hn, hl => by
    have hn' : pl ∉ q.map (·.2) ∧ (q.map (·.2)).Nodup := List.nodup_cons.mp hn
    have hpl : pl < found.length := hl (i, pl) List.mem_cons_self
    have notin : ∀ e ∈ q, e.2 ≠ pl := fun e he h => hn'.1 (List.mem_map.mpr ⟨e, he, h⟩)
    refine Codec.bind (e2 := fun _ r => goE nm q r) (V2 := fun z r => goV q (found.set pl z) r) (fun r => r.getD pl 0) (snum_codec (nm i)) (fun z _ => go_codec nm q (found.set pl z) hn'.2 fun e he => by
      rw [List.length_set]; exact hl e (List.mem_cons_of_mem _ he)) (fun z r _ h => ?_) (fun r => ?_) (fun _ _ => rfl)
    · rw [h.2.1 pl notin, getD_set, if_pos ⟨rfl, hpl⟩]
    · constructor
      · rintro ⟨h1, h2, h3⟩
        refine ⟨h3 (i, pl) List.mem_cons_self, by rw [List.length_set]; exact h1, fun j hj => ?_, fun e he => h3 e (List.mem_cons_of_mem _ he)⟩
        rw [getD_set]
        by_cases e : pl = j
        · subst e
          rw [if_pos ⟨rfl, hpl⟩]
        · rw [if_neg (fun h => e h.1)]
          exact h2 j fun e' he' => by
            rcases List.mem_cons.mp he' with z | z
            · rw [z]; exact e
            · exact hj e' z
      · rintro ⟨h0, h1, h2, h3⟩
        rw [List.length_set] at h1
        refine ⟨h1, fun j hj => ?_, fun e he => ?_⟩
        · have := h2 j fun e he => hj e (List.mem_cons_of_mem _ he)
          rw [this, getD_set, if_neg (fun h => hj (i, pl) List.mem_cons_self h.1)]
        · rcases List.mem_cons.mp he with z | z
          · rw [z]; exact h0
          · exact h3 e z
structure Nms (N : Type) where
  kind : Nat → N
  x : Nat → N
  y : Nat → N
  size : Nat → Nat → N
  rest : N
  which : N
def order : List (Nat × Nat) := [(0, 0), (1, 1), (2, 4), (3, 8), (4, 5), (5, 2), (6, 3), (7, 6), (8, 9), (9, 12), (10, 13), (11, 10), (12, 7), (13, 11), (14, 14), (15, 15)]
def zeros : List Int := List.replicate 16 0
def markO (t : TO N (List Int)) : TO N (List Int) := t.bind fun p => .ret (p.1, p.2 || decide (p.1 = zeros))
variable (M : Nms N)
def restT : TO N (List Int) := .ask (some M.rest) fun b => if b = true then markO (goT M.size order zeros) else retO zeros
def restE (r : List Int) : Path N := if r = zeros then [(some M.rest, false)] else (some M.rest, true) :: goE M.size order r
def restOk (r : List Int) : Prop := r.length = 16 ∧ ∀ i, -4000 ≤ r.getD i 0 ∧ r.getD i 0 ≤ 4000
theorem order_all : ∀ i, i < 16 → ∃ e ∈ order, e.2 = i := by decide
theorem goV_order (r : List Int) : goV order zeros r ↔ restOk r := by
  constructor
  · rintro ⟨h1, h2, h3⟩
    refine ⟨h1, fun i => ?_⟩
    by_cases hi : i < 16
    · obtain ⟨e, he, z⟩ := order_all i hi
      rw [← z]; exact h3 e he
    · rw [List.getD_eq_getElem?_getD, List.getElem?_eq_none (by have : r.length = 16 := h1; omega)]
      decide
  · rintro ⟨h1, h2⟩
    refine ⟨h1, fun i hi => ?_, fun e _ => h2 e.2⟩
    by_cases hi' : i < 16
    · obtain ⟨e, he, z⟩ := order_all i hi'
      exact absurd z (hi e he)
    · have hz : zeros.length = 16 := rfl
      rw [List.getD_eq_getElem?_getD, List.getD_eq_getElem?_getD, List.getElem?_eq_none (by omega), List.getElem?_eq_none (by omega)]
theorem zeros_ok : restOk zeros := (goV_order zeros).mp ⟨rfl, fun _ _ => rfl, fun e he => by
  revert e; decide⟩
theorem rest_codec : Codec (restT M) (restE M) restOk := by
  have hg := go_codec M.size order zeros (by decide) (by decide)
  have step : ∀ (π : Path N) (a : List Int) (o : Bool), walk (restT M) π = some (a, o) → (π = [(some M.rest, false)] ∧ a = zeros ∧ o = false) ∨
      ∃ r o', π = (some M.rest, true) :: r ∧ walk (goT M.size order zeros) r = some (a, o') ∧ o = (o' || decide (a = zeros)) := by
    intro π a o h
    cases π with
    | nil => cases h
    | cons q r =>
      obtain ⟨o1, b⟩ := q
      have h' : (if some M.rest = o1 then walk (if b = true then markO (goT M.size order zeros) else retO zeros) r else none) = some (a, o) := h
      by_cases e : some M.rest = o1
      · subst e
        rw [if_pos rfl] at h'
        cases b with
        | true =>
          rw [if_pos rfl] at h'
          obtain ⟨π1, π2, ⟨a', o'⟩, rfl, w1, w2⟩ := (walk_bind _ _ _ _).mp h'
          cases π2 with
          | cons q r => cases w2
          | nil =>
            have z := Option.some.inj w2
            have e1 : a' = a := congrArg Prod.fst z
            have e2 : (o' || decide (a' = zeros)) = o := congrArg Prod.snd z
            subst e1
            exact .inr ⟨π1, o', by rw [List.append_nil], w1, e2.symm⟩
        | false =>
          rw [if_neg (by decide)] at h'
          cases r with
          | cons q r => cases h'
          | nil =>
            have z := Option.some.inj h'
            exact .inl ⟨rfl, (congrArg Prod.fst z).symm, (congrArg Prod.snd z).symm⟩
      · rw [if_neg e] at h'; cases h'
  refine ⟨fun π a h => ?_, fun π a o h => ?_, fun a ha => ?_⟩
  · rcases step π a false h with ⟨rfl, rfl, _⟩ | ⟨r, o', rfl, w, e⟩
    · unfold restE; rw [if_pos rfl]
    · have e' := e.symm
      rw [Bool.or_eq_false_iff] at e'
      obtain ⟨rfl, e2⟩ := e'
      unfold restE
      rw [if_neg (of_decide_eq_false e2), hg.uniq _ _ w]
  · rcases step π a o h with ⟨_, rfl, _⟩ | ⟨r, o', _, w, _⟩
    · exact zeros_ok
    · exact (goV_order a).mp (hg.val _ _ _ w)
  · unfold restE
    by_cases c : a = zeros
    · subst c
      rw [if_pos rfl]
      show (if some M.rest = some M.rest then walk (if false = true then markO (goT M.size order zeros) else retO zeros) [] else none) = some (zeros, false)
      rw [if_pos rfl, if_neg (by decide)]
      rfl
    · rw [if_neg c]
      show (if some M.rest = some M.rest then walk (if true = true then markO (goT M.size order zeros) else retO zeros) (goE M.size order a) else none) = some (a, false)
      rw [if_pos rfl, if_pos rfl]
      refine (walk_bind _ _ _ _).mpr ⟨goE M.size order a, [], (a, false), (List.append_nil _).symm, hg.back a ((goV_order a).mpr ha), ?_⟩
      show some (a, false || decide (a = zeros)) = _
      rw [decide_eq_false c]
      rfl
/-! vectors -/
abbrev Vec := Int × Int
def vp (p : Int) : Int := (p + 32) % 65 - 32
def vecT (g : Vec) : TO N Vec := bindO (numT M.x 64) fun a => bindO (numT M.y 64) fun b => retO (vp (a + g.1), vp (b + g.2))
def vecE (g v : Vec) : Path N := numE M.x 64 ((v.1 - g.1) % 65) ++ (numE M.y 64 ((v.2 - g.2) % 65) ++ [])
def vecOk (v : Vec) : Prop := -32 ≤ v.1 ∧ v.1 ≤ 32 ∧ -32 ≤ v.2 ∧ v.2 ≤ 32
theorem vec_codec (g : Vec) : Codec (vecT M g) (vecE M g) vecOk := by
  refine Codec.bind (e1 := numE M.x 64) (e2 := fun _ v => numE M.y 64 ((v.2 - g.2) % 65) ++ []) (V1 := fun n => 0 ≤ n ∧ n ≤ 64) (V2 := fun a v => v.1 = vp (a + g.1) ∧ -32 ≤ v.2 ∧ v.2 ≤ 32) (fun v => (v.1 - g.1) % 65) (num_codec M.x (by decide)) (fun a ha => ?_) (fun a v ha h => ?_) (fun v => ?_) (fun v _ => ?_)
  · refine Codec.bind (e1 := numE M.y 64) (e2 := fun _ _ => []) (V1 := fun n => 0 ≤ n ∧ n ≤ 64) (V2 := fun b v => v = (vp (a + g.1), vp (b + g.2))) (fun v => (v.2 - g.2) % 65) (num_codec M.y (by decide)) (fun b hb => Codec.ret) (fun b v hb h => ?_) (fun v => ?_) (fun v _ => ?_)
    · subst h
      simp only [vp] at *
      omega
    · obtain ⟨v1, v2⟩ := v
      simp only [vp, Prod.mk.injEq] at *
      omega
    · rfl
  · simp only [vp] at h
    omega
  · obtain ⟨v1, v2⟩ := v
    simp only [vp, vecOk] at *
    omega
  · unfold vecE
    rfl
/-! choices -/
inductive Ch where
  | bes (i : Nat) (r : List Int)
  | as (w : Bool)
  | mov (w : Bool) (v : Vec) (r : List Int)
  | both (v u : Vec) (r : List Int)
  deriving DecidableEq
def Ch.k : Ch → Int
  | .bes i _ => i
  | .as _ => 4
  | .mov _ _ _ => 5
  | .both _ _ _ => 6
def Ch.w : Ch → Bool
  | .as w => w
  | .mov w _ _ => w
  | _ => false
def Ch.v : Ch → Vec
  | .mov _ v _ => v
  | .both v _ _ => v
  | _ => (0, 0)
def Ch.u : Ch → Vec
  | .both _ u _ => u
  | _ => (0, 0)
def Ch.r : Ch → List Int
  | .bes _ r => r
  | .mov _ _ r => r
  | .both _ _ r => r
  | _ => []
def kinds (reads : Nat) : Int := match reads with
  | 0 => 4
  | 1 => 6
  | _ => 7
def whichT (reads : Nat) : TO N Bool := if reads = 2 then .ask (some M.which) retO else retO false
def whichE (reads : Nat) (w : Bool) : Path N := if reads = 2 then [(some M.which, w)] else []
theorem which_codec (reads : Nat) : Codec (whichT M reads) (whichE M reads) (fun w => reads = 2 ∨ w = false) := by
  unfold whichT whichE
  by_cases c : reads = 2
  · simp only [if_pos c]
    exact Codec.ask (e := fun _ _ => []) (V := fun b w => w = b) (fun w => w) (fun b => Codec.ret) (fun _ _ h => h) (fun w => ⟨fun _ => rfl, fun _ => .inl c⟩) (fun _ _ => rfl)
  · simp only [if_neg c]
    exact (Codec.ret (a := false)).cast (fun w => ⟨fun h => h.resolve_left c, .inr⟩) (fun _ _ => rfl)
def choiceT (reads : Nat) (g : Vec) : TO N Ch := bindO (numT M.kind (kinds reads - 1)) fun k =>
  if k = 4 then bindO (whichT M reads) fun w => retO (.as w)
  else if k = 5 then bindO (whichT M reads) fun w => bindO (vecT M g) fun v => bindO (restT M) fun r => retO (.mov w v r)
  else if k = 6 then bindO (vecT M g) fun v => bindO (vecT M v) fun u => bindO (restT M) fun r => retO (.both v u r)
  else bindO (restT M) fun r => retO (.bes k.toNat r)
def tailE (reads : Nat) (g : Vec) (c : Ch) : Path N := match c with
  | .bes _ r => restE M r ++ []
  | .as w => whichE M reads w ++ []
  | .mov w v r => whichE M reads w ++ (vecE M g v ++ (restE M r ++ []))
  | .both v u r => vecE M g v ++ (vecE M v u ++ (restE M r ++ []))
def choiceE (reads : Nat) (g : Vec) (c : Ch) : Path N := numE M.kind (kinds reads - 1) c.k ++ tailE M reads g c
def chOk (reads : Nat) (c : Ch) : Prop := match c with
  | .bes i r => i < 4 ∧ restOk r
  | .as w => 1 ≤ reads ∧ (reads = 2 ∨ w = false)
  | .mov w v r => 1 ≤ reads ∧ (reads = 2 ∨ w = false) ∧ vecOk v ∧ restOk r
  | .both v u r => 2 ≤ reads ∧ vecOk v ∧ vecOk u ∧ restOk r
theorem kinds_ge (reads : Nat) : 4 ≤ kinds reads ∧ kinds reads ≤ 7 := by
  unfold kinds; split <;> decide
theorem kinds_0 : kinds 0 = 4 := rfl
theorem kinds_1 : kinds 1 = 6 := rfl
theorem kinds_2 {reads : Nat} (h : 2 ≤ reads) : kinds reads = 7 := by
  unfold kinds; split <;> omega
theorem choice_codec (reads : Nat) (g : Vec) : Codec (choiceT M reads g) (choiceE M reads g) (chOk reads) := by
  have kg := kinds_ge reads
  have h1 : ∀ {k : Int}, 4 ≤ k → k ≤ kinds reads - 1 → 1 ≤ reads := fun {k} a b => by
    rcases Nat.eq_zero_or_pos reads with z | z
    · subst z; rw [kinds_0] at b; omega
    · exact z
  have h2 : ∀ {k : Int}, 6 ≤ k → k ≤ kinds reads - 1 → 2 ≤ reads := fun {k} a b => by
    rcases Nat.lt_or_ge reads 2 with z | z
    · have : reads = 0 ∨ reads = 1 := by omega
      rcases this with z | z
      · subst z; rw [kinds_0] at b; omega
      · subst z; rw [kinds_1] at b; omega
    · exact z
  have h1' : 1 ≤ reads → 6 ≤ kinds reads := fun h => by
    rcases Nat.lt_or_ge reads 2 with z | z
    · have : reads = 1 := by omega
      subst this; decide
    · rw [kinds_2 z]; decide
  refine Codec.bind (e2 := fun _ c => tailE M reads g c) (V2 := fun k c => c.k = k ∧ chOk reads c) Ch.k (num_codec M.kind (by omega)) (fun k hk => ?_) (fun k c _ h => h.1) (fun c => ?_) (fun _ _ => rfl)
  · by_cases c4 : k = 4
    · rw [if_pos c4]
      refine Codec.bind (e2 := fun _ _ => []) (V2 := fun w c => c = Ch.as w) Ch.w (which_codec M reads) (fun w hw => Codec.ret) (fun w c _ h => by subst h; rfl) (fun c => ?_) (fun c hc => ?_)
      · cases c <;> simp only [Ch.k, Ch.w, chOk] at * <;> constructor <;> intro h
        · omega
        · exact nomatch h.2
        · exact ⟨h.2.2, trivial⟩
        · exact ⟨c4.symm, h1 (by omega) hk.2, h.1⟩
        · omega
        · exact nomatch h.2
        · omega
        · exact nomatch h.2
      · cases c with
        | as w => rfl
        | bes i r => simp only [Ch.k, chOk] at hc; omega
        | mov _ _ _ => simp only [Ch.k] at hc; omega
        | both _ _ _ => simp only [Ch.k] at hc; omega
    · rw [if_neg c4]
      by_cases c5 : k = 5
      · rw [if_pos c5]
        refine Codec.bind (e2 := fun w c => vecE M g c.v ++ (restE M c.r ++ [])) (V2 := fun w c => vecOk c.v ∧ restOk c.r ∧ c = Ch.mov w c.v c.r) Ch.w (which_codec M reads) (fun w hw => ?_) (fun w c _ h => by rw [h.2.2]; rfl) (fun c => ?_) (fun c hc => ?_)
        · refine Codec.bind (e2 := fun v c => restE M c.r ++ []) (V2 := fun v c => restOk c.r ∧ c = Ch.mov w v c.r) Ch.v (vec_codec M g) (fun v hv => ?_) (fun v c _ h => by rw [h.2]; rfl) (fun c => ?_) (fun c hc => rfl)
          · refine Codec.bind (e2 := fun _ _ => []) (V2 := fun r c => c = Ch.mov w v r) Ch.r (rest_codec M) (fun r hr => Codec.ret) (fun r c _ h => by subst h; rfl) (fun c => Iff.rfl) (fun c hc => rfl)
          · exact Iff.rfl
        · cases c <;> simp only [Ch.k, Ch.w, Ch.v, Ch.r, chOk] at * <;> constructor <;> intro h
          · omega
          · exact nomatch h.2.2.2
          · omega
          · exact nomatch h.2.2.2
          · exact ⟨h.2.2.1, h.2.2.2.1, h.2.2.2.2, trivial⟩
          · exact ⟨c5.symm, h1 (by omega) hk.2, h.1, h.2.1, h.2.2.1⟩
          · omega
          · exact nomatch h.2.2.2
        · cases c with
          | mov w v r => rfl
          | bes i r => simp only [Ch.k, chOk] at hc; omega
          | as _ => simp only [Ch.k] at hc; omega
          | both _ _ _ => simp only [Ch.k] at hc; omega
      · rw [if_neg c5]
        by_cases c6 : k = 6
        · rw [if_pos c6]
          refine Codec.bind (e2 := fun v c => vecE M v c.u ++ (restE M c.r ++ [])) (V2 := fun v c => vecOk c.u ∧ restOk c.r ∧ c = Ch.both v c.u c.r) Ch.v (vec_codec M g) (fun v hv => ?_) (fun v c _ h => by rw [h.2.2]; rfl) (fun c => ?_) (fun c hc => ?_)
          · refine Codec.bind (e2 := fun u c => restE M c.r ++ []) (V2 := fun u c => restOk c.r ∧ c = Ch.both v u c.r) Ch.u (vec_codec M v) (fun u hu => ?_) (fun u c _ h => by rw [h.2]; rfl) (fun c => ?_) (fun c hc => rfl)
            · refine Codec.bind (e2 := fun _ _ => []) (V2 := fun r c => c = Ch.both v u r) Ch.r (rest_codec M) (fun r hr => Codec.ret) (fun r c _ h => by subst h; rfl) (fun c => Iff.rfl) (fun c hc => rfl)
            · exact Iff.rfl
          · cases c <;> simp only [Ch.k, Ch.v, Ch.u, Ch.r, chOk] at * <;> constructor <;> intro h
            · omega
            · exact nomatch h.2.2.2
            · omega
            · exact nomatch h.2.2.2
            · omega
            · exact nomatch h.2.2.2
            · exact ⟨h.2.2.1, h.2.2.2.1, h.2.2.2.2, trivial⟩
            · exact ⟨c6.symm, h2 (by omega) hk.2, h.1, h.2.1, h.2.2.1⟩
          · cases c with
            | both v u r => rfl
            | bes i r => simp only [Ch.k, chOk] at hc; omega
            | as _ => simp only [Ch.k] at hc; omega
            | mov _ _ _ => simp only [Ch.k] at hc; omega
        · rw [if_neg c6]
          have k3 : k < 4 := by omega
          refine Codec.bind (e2 := fun _ _ => []) (V2 := fun r c => c = Ch.bes k.toNat r) Ch.r (rest_codec M) (fun r hr => Codec.ret) (fun r c _ h => by subst h; rfl) (fun c => ?_) (fun c hc => ?_)
          · cases c <;> simp only [Ch.k, Ch.r, chOk] at * <;> constructor <;> intro h
            · exact ⟨h.2.2, by congr 1; omega⟩
            · obtain ⟨h3, h4⟩ := h
              injection h4 with h5 _
              exact ⟨by omega, by omega, h3⟩
            · omega
            · exact nomatch h.2
            · omega
            · exact nomatch h.2
            · omega
            · exact nomatch h.2
          · cases c with
            | bes i r => rfl
            | both _ _ _ => simp only [Ch.k] at hc; omega
            | as _ => simp only [Ch.k] at hc; omega
            | mov _ _ _ => simp only [Ch.k] at hc; omega
  · cases c <;> simp only [Ch.k, chOk] at * <;> constructor <;> intro h
    · exact ⟨⟨by omega, by omega⟩, trivial, h⟩
    · exact h.2.2
    · have := h1' h.1
      exact ⟨⟨by omega, by omega⟩, trivial, h⟩
    · exact h.2.2
    · have := h1' h.1
      exact ⟨⟨by omega, by omega⟩, trivial, h⟩
    · exact h.2.2
    · have := kinds_2 h.1
      exact ⟨⟨by omega, by omega⟩, trivial, h⟩
    · exact h.2.2
/-! all blocks of one row -/
def fv (c : Ch) (g : Vec) : Option Vec := match c with
  | .as _ => some g
  | .mov _ v _ => some v
  | .both v _ _ => some v
  | .bes _ _ => none
def gs (l : Option Vec) : Vec := l.getD (0, 0)
def allT (reads : Nat) : Nat → Option Vec → TO N (List Ch)
  | 0, _ => retO []
  | m + 1, l => bindO (choiceT M reads (gs l)) fun c => bindO (allT reads m (fv c (gs l))) fun cs => retO (c :: cs)
def allE (reads : Nat) : Option Vec → List Ch → Path N
  | _, [] => []
  | l, c :: cs => choiceE M reads (gs l) c ++ allE reads (fv c (gs l)) cs
def allOk (reads m : Nat) (cs : List Ch) : Prop := cs.length = m ∧ ∀ c ∈ cs, chOk reads c
theorem all_codec (reads : Nat) : ∀ (m : Nat) (l : Option Vec), Codec (allT M reads m l) (allE M reads l) (allOk reads m)
  | 0, l => (Codec.ret (a := ([] : List Ch))).cast (fun cs => ⟨fun h => List.length_eq_zero_iff.mp h.1, fun h => by subst h; exact ⟨rfl, fun _ h => nomatch h⟩⟩) (fun cs h => by subst h; rfl)
  | m + 1, l => by
    have hd : ∀ (cs : List Ch), allOk reads (m + 1) cs ↔ (chOk reads (cs.headD (.as false)) ∧ (allOk reads m cs.tail ∧ cs = cs.headD (.as false) :: cs.tail)) := fun cs => by
      constructor
      · rintro ⟨h1, h2⟩
        cases cs with
        | nil => cases h1
        | cons c r => exact ⟨h2 c List.mem_cons_self, ⟨Nat.succ.inj h1, fun d hd => h2 d (List.mem_cons_of_mem _ hd)⟩, rfl⟩
      · rintro ⟨h1, ⟨h2, h3⟩, h4⟩
        rw [h4]
        exact ⟨by rw [List.length_cons, h2], fun c hc => by
          rcases List.mem_cons.mp hc with z | z
          · rw [z]; exact h1
          · exact h3 c z⟩
    refine Codec.bind (e2 := fun c cs => allE M reads (fv c (gs l)) cs.tail ++ []) (V2 := fun c cs => allOk reads m cs.tail ∧ cs = c :: cs.tail) (fun cs => cs.headD (.as false)) (choice_codec M reads (gs l)) (fun c hc => ?_) (fun c cs _ h => by rw [h.2]; rfl) hd (fun cs hcs => ?_)
    · exact Codec.bind (e2 := fun _ _ => []) (V2 := fun r cs => cs = c :: r) List.tail (all_codec reads m (fv c (gs l))) (fun r hr => Codec.ret) (fun r cs _ h => by subst h; rfl) (fun cs => Iff.rfl) (fun cs hcs => rfl)
    · cases cs with
      | nil => cases hcs.1
      | cons c r =>
        show choiceE M reads (gs l) c ++ allE M reads (fv c (gs l)) r = choiceE M reads (gs l) c ++ (allE M reads (fv c (gs l)) r ++ [])
        rw [List.append_nil]
end
end K4
/-! The law's own tests, in plain Lean. -/
namespace K4
section
variable {N : Type} [DecidableEq N] (M : Nms N)
def s0 : CS N := ⟨0, 4294967296, 0, 0, fun _ => 1024⟩
theorem s0_ok : Ok (s0 : CS N) := ⟨by show (16777216 : Int) ≤ 4294967296; decide, by show (4294967296 : Int) ≤ 4294967296; decide, fun _ => by show (31 : Int) ≤ 1024 ∧ (1024 : Int) ≤ 2017; decide, by show (0 : Int) ≤ 0; decide, by show (0 : Int) + 4294967296 ≤ 256 ^ (0 + 4); decide⟩
theorem s0_In {f : Nat → Int} (hf : Bytes f) : In f (s0 : CS N) := by
  have h0 := hf 0; have h1 := hf 1; have h2 := hf 2; have h3 := hf 3
  show (0 : Int) ≤ codeAt f 4 ∧ codeAt f 4 < 0 + 4294967296
  have e : codeAt f 4 = (((0 * 256 + f 0) * 256 + f 1) * 256 + f 2) * 256 + f 3 := rfl
  omega
def readAll (reads m : Nat) (l : List Int) : List Ch × Bool := (run (fn l) (allT M reads m none) s0).1
def lastS (reads : Nat) (cs : List Ch) : CS N := steps s0 (allE M reads none cs)
def ownC (reads : Nat) (cs : List Ch) : List Int := ownOf (lastS M reads cs)
variable {M} {reads m : Nat} {l : List Int} {cs : List Ch}
theorem lastS_ok : Ok (lastS M reads cs) := s0_ok.steps _
theorem read_ok (hl : BytesL l) : allOk reads m (readAll M reads m l).1 := by
  obtain ⟨π, h1, _, _⟩ := run_path (fn_bytes hl) (allT M reads m none) s0_ok (s0_In (fn_bytes hl))
  exact (all_codec M reads m none).val π _ _ h1
theorem read_In (hl : BytesL l) (h : readAll M reads m l = (cs, false)) : In (fn l) (lastS M reads cs) := by
  obtain ⟨π, h1, h2, h3⟩ := run_path (fn_bytes hl) (allT M reads m none) s0_ok (s0_In (fn_bytes hl))
  have h1' : walk (allT M reads m none) π = some (readAll M reads m l) := h1
  rw [h] at h1'
  have e := (all_codec M reads m none).uniq π cs h1'
  rw [e] at h3
  exact h3
theorem In_read (hl : BytesL l) (hc : allOk reads m cs) (h : In (fn l) (lastS M reads cs)) : readAll M reads m l = (cs, false) := by
  have e := run_of (fn_bytes hl) _ s0_ok ((all_codec M reads m none).back cs hc) h
  unfold readAll
  rw [e]
theorem own_read (hc : allOk reads m cs) : readAll M reads m (ownC M reads cs) = (cs, false) := In_read (own_bytes _) hc (own_In lastS_ok)
theorem own_le (hl : BytesL l) (h : readAll M reads m l = (cs, false)) : (ownC M reads cs).length ≤ l.length ∧ ((ownC M reads cs).length = l.length → lexLe (ownC M reads cs) l = true) := by
  obtain ⟨h1, h2⟩ := own_least lastS_ok (read_In hl h)
  have e : (ownC M reads cs).length = many (lastS M reads cs) := own_length _
  exact ⟨by rw [e]; exact h1, fun q => lexLe_of_val q (own_bytes _) hl (h2 (by rw [← e, q]))⟩
theorem own_inj {ds : List Ch} (hc : allOk reads m cs) (hd : allOk reads m ds) (h : ownC M reads cs = ownC M reads ds) : cs = ds := by
  have h1 := own_read (M := M) hc
  rw [h, own_read hd] at h1
  exact (congrArg Prod.fst h1).symm
theorem snoc_of {α : Type} {l : List α} (h : l ≠ []) : ∃ q x, l = q ++ [x] := ⟨l.dropLast, l.getLast h, (List.dropLast_concat_getLast h).symm⟩
theorem bytes_snoc {q : List Int} {x : Int} (h : BytesL (q ++ [x])) : BytesL q ∧ 0 ≤ x ∧ x < 256 :=
  ⟨fun y hy => h y (List.mem_append_left _ hy), h x (List.mem_append_right _ (List.mem_singleton.mpr rfl))⟩
theorem own_shorter {q : List Int} {x : Int} (hc : allOk reads m cs) (h : ownC M reads cs = q ++ [x]) : readAll M reads m q ≠ (cs, false) := fun e => by
  have hb : BytesL (q ++ [x]) := h ▸ own_bytes (lastS M reads cs)
  have := (own_le (bytes_snoc hb).1 e).1
  rw [h, List.length_append, List.length_singleton] at this
  omega
theorem own_last {q : List Int} {x : Int} (hc : allOk reads m cs) (h : ownC M reads cs = q ++ [x]) : 0 < x := by
  have hb : BytesL (q ++ [x]) := h ▸ own_bytes (lastS M reads cs)
  obtain ⟨b1, b2, b3⟩ := bytes_snoc hb
  rcases Int.lt_or_eq_of_le b2 with z | z
  · exact z
  · exfalso
    subst z
    refine own_shorter hc h (In_read b1 hc ?_)
    have hi : In (fn (ownC M reads cs)) (lastS M reads cs) := own_In lastS_ok
    have ef : fn (q ++ [0]) = fn q := funext fun i => by
      unfold fn
      rw [List.getD_eq_getElem?_getD, List.getD_eq_getElem?_getD]
      by_cases c : i < q.length
      · rw [List.getElem?_append_left c]
      · rw [List.getElem?_append_right (by omega), List.getElem?_eq_none (l := q) (by omega)]
        cases (i - q.length) with
        | zero => rfl
        | succ j => rfl
    rw [h, ef] at hi
    exact hi
theorem lexLe_last : ∀ (q : List Int) (x : Int), lexLe (q ++ [x]) (q ++ [x - 1]) = false
  | [], x => by
    show (decide (x < x - 1) || (decide (x = x - 1) && true)) = false
    rw [decide_eq_false (by omega), decide_eq_false (by omega)]
    rfl
  | a :: r, x => by
    show (decide (a < a) || (decide (a = a) && lexLe (r ++ [x]) (r ++ [x - 1]))) = false
    rw [lexLe_last r x, decide_eq_false (by omega)]
    simp
theorem own_less {q : List Int} {x : Int} (hc : allOk reads m cs) (h : ownC M reads cs = q ++ [x]) : readAll M reads m (q ++ [x - 1]) ≠ (cs, false) := fun e => by
  have hb : BytesL (q ++ [x]) := h ▸ own_bytes (lastS M reads cs)
  obtain ⟨b1, b2, b3⟩ := bytes_snoc hb
  have hx := own_last hc h
  have hb' : BytesL (q ++ [x - 1]) := fun y hy => by
    rcases List.mem_append.mp hy with z | z
    · exact b1 y z
    · have : y = x - 1 := by simpa using z
      omega
  have := (own_le hb' e).2 (by rw [h]; simp)
  rw [h, lexLe_last] at this
  cases this
/-! how far the coder goes -/
theorem up_len (nm : Nat → N) (d k : Nat) : Len (upT nm d k) d := by
  induction d generalizing k with
  | zero => exact Len.ret k
  | succ d ih =>
    refine Len.ask fun b => ?_
    cases b with
    | true => rw [if_pos rfl]; exact ih (k + 1)
    | false => rw [if_neg (by decide)]; exact (Len.ret k).mono (Nat.zero_le _)
theorem ev_len (m : Nat) (v : Int) : Len (evT m v : T N Int) m := by
  induction m generalizing v with
  | zero => exact Len.ret v
  | succ m ih => exact Len.ask fun b => ih _
theorem num_len (nm : Nat → N) (most : Int) {g : Nat} (hg : lg (most + 1) = g) : Len (numT nm most) (g + g) := by
  unfold numT
  rw [hg]
  refine Len.bind (up_len nm g 0) fun π k w => ?_
  have hk : k ≤ g := by have := ((up_walk nm _ _ _ _).mp w).2.1; omega
  refine (Len.bind (d2 := 0) (ev_len k 1) fun _ v _ => Len.ret _).mono (by omega)
theorem snum_len (nm : Nat → N) : Len (snumT nm) 23 := by
  refine (Len.bindO (d1 := 22) (d2 := 1) ((num_len nm 4000 (g := 11) (by decide)).mono (by decide)) fun n => ?_).mono (by decide)
  by_cases c : n = 0
  · rw [if_pos c]; exact (Len.ret _).mono (by decide)
  · rw [if_neg c]; exact Len.ask fun b => Len.ret _
theorem go_len (nm : Nat → Nat → N) : ∀ (q : List (Nat × Nat)) (found : List Int), Len (goT nm q found) (23 * q.length)
  | [], found => Len.ret _
  | (i, pl) :: q, found => (Len.bindO (snum_len (nm i)) fun z => go_len nm q (found.set pl z)).mono (by rw [List.length_cons]; omega)
theorem rest_len : Len (restT M) 369 := by
  refine (Len.ask (d := 368) fun b => ?_).mono (by decide)
  cases b with
  | true =>
    rw [if_pos rfl]
    exact (Len.bind (d2 := 0) (go_len M.size order zeros) fun _ p _ => Len.ret _).mono (by decide)
  | false => rw [if_neg (by decide)]; exact (Len.ret _).mono (by decide)
theorem vec_len (g : Vec) : Len (vecT M g) 24 :=
  (Len.bindO (d1 := 12) (d2 := 12) (num_len M.x 64 (g := 6) (by decide)) fun a => (Len.bindO (d1 := 12) (d2 := 0) (num_len M.y 64 (g := 6) (by decide)) fun b => Len.ret _).mono (by decide)).mono (by decide)
theorem which_len : Len (whichT M reads) 1 := by
  unfold whichT
  by_cases c : reads = 2
  · rw [if_pos c]; exact Len.ask fun b => Len.ret _
  · rw [if_neg c]; exact (Len.ret _).mono (by decide)
theorem kind_len : Len (numT M.kind (kinds reads - 1)) 4 := by
  have h : lg (kinds reads - 1 + 1) ≤ 2 := by
    unfold kinds
    split <;> decide
  exact (num_len M.kind _ rfl).mono (by omega)
theorem choice_len (g : Vec) : Len (choiceT M reads g) 422 := by
  refine (Len.bindO (d1 := 4) (d2 := 418) kind_len fun k => ?_).mono (by decide)
  have r := rest_len (M := M)
  have w := which_len (M := M) (reads := reads)
  by_cases c4 : k = 4
  · rw [if_pos c4]; exact (Len.bindO (d2 := 0) w fun _ => Len.ret _).mono (by decide)
  · rw [if_neg c4]
    by_cases c5 : k = 5
    · rw [if_pos c5]
      exact (Len.bindO w fun _ => Len.bindO (vec_len g) fun v => Len.bindO (d2 := 0) r fun _ => Len.ret _).mono (by decide)
    · rw [if_neg c5]
      by_cases c6 : k = 6
      · rw [if_pos c6]
        exact (Len.bindO (vec_len g) fun v => Len.bindO (vec_len v) fun u => Len.bindO (d2 := 0) r fun _ => Len.ret _).mono (by decide)
      · rw [if_neg c6]
        exact (Len.bindO (d2 := 0) r fun _ => Len.ret _).mono (by decide)
theorem all_len (reads : Nat) : ∀ (m : Nat) (l : Option Vec), Len (allT M reads m l) (422 * m)
  | 0, _ => Len.ret _
  | m + 1, l => (Len.bindO (choice_len (gs l)) fun c => Len.bindO (d2 := 0) (all_len reads m (fv c (gs l))) fun _ => Len.ret _).mono (by omega)
theorem Codec.len {α : Type} {t : TO N α} {e : α → Path N} {V : α → Prop} {d : Nat} (h : Codec t e V) (hl : Len t d) {a : α} (ha : V a) : (e a).length ≤ d := hl _ _ (h.back a ha)
theorem lastS_n (hc : allOk reads m cs) : (lastS M reads cs).n ≤ 422 * m := by
  have h1 := (all_codec M reads m none).len (all_len reads m none) hc
  have h2 := steps_n (s0 : CS N) (allE M reads none cs)
  have h3 : (s0 : CS N).n = 0 := rfl
  unfold lastS
  omega
end
end K4
namespace K4
open PySem PySem.Spec PyProof.Rows L2
variable {P : Program} {w : World} {K : PySem.W.Frag} {mg : Str → Option Value} {base : Heap}
/-! is_whole, is_side, is_letter, is_list, need_size, need_sign -/
def spWhole : Sp := fun vs H Q _ => ∃ i lo hi : Int, vs = [.int i, .int lo, .int hi] ∧ lo ≤ i ∧ i ≤ hi ∧ Q (.bl true) H
theorem sc_is_whole : FnScope ["thing", "least", "most"] ["thing", "least", "most"] (defScope s_is_whole) := ⟨rfl, rfl, rfl, by decide +kernel, rfl, by decide +kernel, by decide +kernel⟩
theorem d_is_whole (B : Bt mg) (D : Df K mg "is_whole" s_is_whole) : Dk P w K mg base CX0 1 "is_whole" ["thing", "least", "most"] spWhole := by
  refine Dk.mk' D sc_is_whole (fun _ _ _ _ _ _ us hl => match us, hl with | [_, _, _], _ => rfl) (fun vs H Q E h => ?_) (fun cdv A outer s H vs Q E hr h => ?_)
  · obtain ⟨i, lo, hi, rfl, _⟩ := h
    rfl
  · obtain ⟨i, lo, hi, rfl, h1, h2, q⟩ := h
    refine ⟨_, pss_one (ps_ret (pe_and (pB isa_int B.isinstance (pa_cons (pv 0) (pa_cons (pe_ty "int" B.int) pa_nil)))
      (pe_and (pe_not (pB isa_int_bool B.isinstance (pa_cons (pv 0) (pa_cons (pe_ty "bool" B.bool) pa_nil))))
        (pe_one (pe_chain op_le op_le (pv 1) (pv 0) (pv 2)))))), ?_⟩
    refine ⟨_, rfl, _, rfl, ⟨_, rfl⟩, _, rfl, iteT ?_⟩
    refine ⟨_, rfl, _, rfl, ⟨_, rfl⟩, _, rfl, _, rfl, iteT ?_⟩
    refine ⟨_, rfl, _, rfl, _, _, rfl, rfl, _, rfl, ?_⟩
    rw [if_pos (decide_eq_true h1)]
    refine ⟨_, rfl, _, _, rfl, rfl, ?_⟩
    show Q (.bl (decide (i ≤ hi))) H
    rw [decide_eq_true h2]
    exact q
def spSide : Sp := fun vs H Q _ => ∃ i : Int, vs = [.int i] ∧ (4 ≤ i ∧ i ≤ 32 ∧ i % 4 = 0) ∧ Q (.bl true) H
theorem sc_is_side : FnScope ["thing"] ["thing"] (defScope s_is_side) := ⟨rfl, rfl, rfl, by decide +kernel, rfl, by decide +kernel, by decide +kernel⟩
theorem d_is_side (C : Ct mg) (D : Df K mg "is_side" s_is_side) (G : Dk P w K mg base CX0 1 "is_whole" ["thing", "least", "most"] spWhole) : Dk P w K mg base CX0 2 "is_side" ["thing"] spSide := by
  refine Dk.mk' D sc_is_side (fun _ _ _ _ _ _ us hl => match us, hl with | [_], _ => rfl) (fun vs H Q E h => ?_) (fun cdv A outer s H vs Q E hr h => ?_)
  · obtain ⟨i, rfl, _⟩ := h
    rfl
  · obtain ⟨i, rfl, ⟨h1, h2, h3⟩, q⟩ := h
    refine ⟨_, pss_one (ps_ret (pe_and (pcall G hr (by decide) rfl (pa_cons (pv 0) (pa_cons (pgI C.leastSide) (pa_cons (pgI C.mostSide) pa_nil))))
      (pe_one (pe_cmpR op_eq (pe_op op_mod (pv 0) pe_int) pe_int (nomark _))))), ?_⟩
    refine ⟨_, rfl, i, 4, 32, rfl, h1, h2, _, rfl, iteT ?_⟩
    refine ⟨_, rfl, _, _, rfl, rfl, (by show (0 : Int) < 4; decide), rfl, ?_⟩
    show Q (.bl (decide (V.int (i % 4) = V.int 0))) H
    rw [h3, decide_eq_true rfl]
    exact q
def spLetter : Sp := fun vs H Q _ => ∃ i : Int, vs = [.int i] ∧ (0 ≤ i ∧ i < 256) ∧ Q (.bl true) H
theorem sc_is_letter : FnScope ["thing"] ["thing"] (defScope s_is_letter) := ⟨rfl, rfl, rfl, by decide +kernel, rfl, by decide +kernel, by decide +kernel⟩
theorem d_is_letter (D : Df K mg "is_letter" s_is_letter) (G : Dk P w K mg base CX0 1 "is_whole" ["thing", "least", "most"] spWhole) : Dk P w K mg base CX0 2 "is_letter" ["thing"] spLetter := by
  refine Dk.mk' D sc_is_letter (fun _ _ _ _ _ _ us hl => match us, hl with | [_], _ => rfl) (fun vs H Q E h => ?_) (fun cdv A outer s H vs Q E hr h => ?_)
  · obtain ⟨i, rfl, _⟩ := h
    rfl
  · obtain ⟨i, rfl, ⟨h1, h2⟩, q⟩ := h
    refine ⟨_, pss_one (ps_ret (pcall G hr (by decide) rfl (pa_cons (pv 0) (pa_cons pe_int (pa_cons pe_int pa_nil))))), ?_⟩
    exact ⟨_, rfl, i, 0, 255, rfl, h1, by omega, q⟩
def spIsList (K : PySem.W.Frag) : Sp := fun vs H Q _ => ∃ a xs, vs = [.ref a] ∧ SqT K H a xs ∧ ∀ H', Same H H' → Q (.bl true) H'
theorem sc_is_list : FnScope ["thing"] ["thing"] (defScope s_is_list) := ⟨rfl, rfl, rfl, by decide +kernel, rfl, by decide +kernel, by decide +kernel⟩
theorem _root_.L2.Same.seqT {H H' : Hp} {a : Addr} {xs : List V} (e : Same H H') (h : SqT K H a xs) : SqT K H' a xs := by
  rcases h with (h | ⟨o, h⟩) | h
  · exact .inl (.inl (e _ _ h))
  · exact .inl (.inr ⟨o, e _ _ h⟩)
  · exact .inr h
theorem d_is_list (B : Bt mg) (D : Df K mg "is_list" s_is_list) : Dk P w K mg base CX0 1 "is_list" ["thing"] (spIsList K) := by
  refine Dk.mk' D sc_is_list (fun _ _ _ _ _ _ us hl => match us, hl with | [_], _ => rfl) (fun vs H Q E h => ?_) (fun cdv A outer s H vs Q E hr h => ?_)
  · obtain ⟨a, xs, rfl, _⟩ := h
    rfl
  · obtain ⟨a, xs, rfl, hs, q⟩ := h
    refine ⟨_, pss_one (ps_ret (pB isa_lt B.isinstance (pa_cons (pv 0) (pa_cons (pe_tup (pa_cons (pe_ty "list" B.list) (pa_cons (pe_ty "tuple" B.tuple) pa_nil))) pa_nil)))), ?_⟩
    refine ⟨_, rfl, by show 2 ≤ sizeLine; decide, fun p hp => ?_⟩
    exact ⟨a, p, xs, rfl, upd_same, (Same.new hp).seqT hs, q _ (Same.new hp)⟩
def spNeedSize : Sp := fun vs H Q _ => ∃ i j : Int, vs = [.int i, .int j] ∧ (4 ≤ i ∧ i ≤ 32 ∧ i % 4 = 0) ∧ (4 ≤ j ∧ j ≤ 32 ∧ j % 4 = 0) ∧ Q .non H
theorem sc_need_size : FnScope ["wide", "tall"] ["wide", "tall"] (defScope s_need_size) := ⟨rfl, rfl, rfl, by decide +kernel, rfl, by decide +kernel, by decide +kernel⟩
theorem d_need_size (D : Df K mg "need_size" s_need_size) (G : Dk P w K mg base CX0 2 "is_side" ["thing"] spSide) : Dk P w K mg base CX0 3 "need_size" ["wide", "tall"] spNeedSize := by
  refine Dk.mk' D sc_need_size (fun _ _ _ _ _ _ us hl => match us, hl with | [_, _], _ => rfl) (fun vs H Q E h => ?_) (fun cdv A outer s H vs Q E hr h => ?_)
  · obtain ⟨i, j, rfl, _⟩ := h
    rfl
  · obtain ⟨i, j, rfl, hi, hj, q⟩ := h
    refine ⟨_, pss_one (ps_if (PW.pt (pw_or (pt_not (pt_val (pcall G hr (by decide) rfl (pa_cons (pv 0) pa_nil)))) (pw_or1 (pt_not (pt_val (pcall G hr (by decide) rfl (pa_cons (pv 1) pa_nil))))))) pss_never pss_nil), ?_⟩
    refine ⟨_, rfl, i, rfl, hi, _, rfl, iteF ?_⟩
    exact ⟨_, rfl, j, rfl, hj, _, rfl, iteF q⟩
def spNeedSign : Sp := fun vs H Q _ => ∃ i : Int, vs = [.int i] ∧ (0 ≤ i ∧ i ≤ 1) ∧ Q .non H
theorem sc_need_sign : FnScope ["value"] ["value"] (defScope s_need_sign) := ⟨rfl, rfl, rfl, by decide +kernel, rfl, by decide +kernel, by decide +kernel⟩
theorem d_need_sign (D : Df K mg "need_sign" s_need_sign) (G : Dk P w K mg base CX0 1 "is_whole" ["thing", "least", "most"] spWhole) : Dk P w K mg base CX0 2 "need_sign" ["value"] spNeedSign := by
  refine Dk.mk' D sc_need_sign (fun _ _ _ _ _ _ us hl => match us, hl with | [_], _ => rfl) (fun vs H Q E h => ?_) (fun cdv A outer s H vs Q E hr h => ?_)
  · obtain ⟨i, rfl, _⟩ := h
    rfl
  · obtain ⟨i, rfl, ⟨h1, h2⟩, q⟩ := h
    refine ⟨_, pss_one (ps_if (pt_not (pt_val (pcall G hr (by decide) rfl (pa_cons (pv 0) (pa_cons pe_int (pa_cons pe_int pa_nil)))))) pss_never pss_nil), ?_⟩
    exact ⟨_, rfl, i, 0, 1, rfl, h1, h2, _, rfl, iteF q⟩
/-! signs_in, lower_signs, letters_in, vector_part, _law_power -/
theorem lg_more {v : Int} (h : 1 < v) : lg v = lg (v / 2) + 1 := by
  have h1 := lg_spec (show 1 ≤ v / 2 by omega)
  refine lg_unique ?_ ?_
  · rw [Int.pow_succ]; omega
  · rw [Int.pow_succ]; omega
theorem lg_small {v : Int} (h : ¬ 1 < v) : lg v = 0 := by
  by_cases e : v = 1
  · rw [e]; rfl
  · have : v.toNat = 0 := by omega
    unfold lg
    rw [this]; rfl
def spLg : Sp := fun vs H Q _ => ∃ v : Int, vs = [.int v] ∧ Q (.int (lg v)) H
theorem sc_signs_in : FnScope ["number", "found"] ["number"] (defScope s_signs_in) := ⟨rfl, rfl, rfl, by decide +kernel, rfl, by decide +kernel, by decide +kernel⟩
theorem d_signs_in (D : Df K mg "signs_in" s_signs_in) : Dk P w K mg base CX0 1 "signs_in" ["number"] spLg := by
  refine Dk.mk' D sc_signs_in (fun _ _ _ _ _ _ us hl => match us, hl with | [_], _ => rfl) (fun vs H Q E h => ?_) (fun cdv A outer s H vs Q E hr h => ?_)
  · obtain ⟨i, rfl, _⟩ := h
    rfl
  · obtain ⟨v, rfl, q⟩ := h
    refine ⟨_, pss_cons (ps_set (i := 1) sc_signs_in.nd rfl (.inl rfl) pe_int) (pss_cons (ps_while PassesOwn.never (pt_cmpR op_gt (pv 0) pe_int (nomark _))
      (pss_cons (ps_set (i := 0) sc_signs_in.nd rfl (.inl rfl) (pe_op op_fdiv (pv 0) pe_int)) (pss_one (ps_aug (i := 1) sc_signs_in.nd rfl (.inl rfl) pe_int ip_add)))) (pss_one (ps_ret (pv 1)))), ?_⟩
    refine ⟨fun m σ H' => ∃ (u : Int) (k : Nat), σ = [some (.int u), some (.int k)] ∧ m = u.toNat ∧ H' = H ∧ k + lg u = lg v, ⟨_, v, 0, rfl, rfl, rfl, by omega⟩, ?_⟩
    rintro m σ H' ⟨u, k, rfl, rfl, rfl, hk⟩
    refine ⟨_, rfl, _, _, rfl, rfl, _, rfl, ite2 (fun c => ?_) (fun c => ?_)⟩
    · have c' : 1 < u := of_decide_eq_true c
      refine ⟨fun σ' H'' => σ' = [some (.int (u / 2)), some (.int ((k + 1 : Nat) : Int))] ∧ H'' = H', fun σ' H'' e => ⟨_, ?_, u / 2, k + 1, e.1, rfl, e.2, ?_⟩, ?_⟩
      · omega
      · have := lg_more c'; omega
      · exact ⟨_, rfl, _, _, rfl, rfl, ⟨by decide, by decide⟩, _, rfl, _, _, rfl, rfl, rfl, rfl⟩
    · have c' : ¬ 1 < u := fun z => c (decide_eq_true z)
      have e := lg_small c'
      have e2 : (k : Int) = (lg v : Int) := by omega
      refine ⟨_, rfl, ?_⟩
      show Q (.int (k : Int)) H'
      rw [e2]
      exact q
theorem sc_power : FnScope ["_law_number_here", "_law_found"] ["_law_number_here"] (defScope s_law_power) := ⟨rfl, rfl, rfl, by decide +kernel, rfl, by decide +kernel, by decide +kernel⟩
theorem d_power (D : Df K mg "_law_power" s_law_power) : Dk P w K mg base CX0 1 "_law_power" ["_law_number_here"] spLg := by
  refine Dk.mk' D sc_power (fun _ _ _ _ _ _ us hl => match us, hl with | [_], _ => rfl) (fun vs H Q E h => ?_) (fun cdv A outer s H vs Q E hr h => ?_)
  · obtain ⟨i, rfl, _⟩ := h
    rfl
  · obtain ⟨v, rfl, q⟩ := h
    refine ⟨_, pss_cons (ps_set (i := 1) sc_power.nd rfl (.inl rfl) pe_int) (pss_cons (ps_while PassesOwn.never (pt_cmpR op_gt (pv 0) pe_int (nomark _))
      (pss_one (ps_par (i := 0) (j := 1) (by rfl) sc_power.nd rfl rfl (by decide) rfl rfl (pa_cons (pe_op op_fdiv (pv 0) pe_int) (pa_cons (pe_op op_add (pv 1) pe_int) pa_nil)) (by rfl)))) (pss_one (ps_ret (pv 1)))), ?_⟩
    refine ⟨fun m σ H' => ∃ (u : Int) (k : Nat), σ = [some (.int u), some (.int k)] ∧ m = u.toNat ∧ H' = H ∧ k + lg u = lg v, ⟨_, v, 0, rfl, rfl, rfl, by omega⟩, ?_⟩
    rintro m σ H' ⟨u, k, rfl, rfl, rfl, hk⟩
    refine ⟨_, rfl, _, _, rfl, rfl, _, rfl, ite2 (fun c => ?_) (fun c => ?_)⟩
    · have c' : 1 < u := of_decide_eq_true c
      refine ⟨fun σ' H'' => σ' = [some (.int (u / 2)), some (.int ((k + 1 : Nat) : Int))] ∧ H'' = H', fun σ' H'' e => ⟨_, ?_, u / 2, k + 1, e.1, rfl, e.2, ?_⟩, ?_⟩
      · omega
      · have := lg_more c'; omega
      · exact ⟨_, rfl, _, _, rfl, rfl, ⟨by decide, by decide⟩, _, rfl, _, _, rfl, rfl, _, _, rfl, rfl, rfl⟩
    · have c' : ¬ 1 < u := fun z => c (decide_eq_true z)
      have e := lg_small c'
      have e2 : (k : Int) = (lg v : Int) := by omega
      refine ⟨_, rfl, ?_⟩
      show Q (.int (k : Int)) H'
      rw [e2]
      exact q
def spVp : Sp := fun vs H Q _ => ∃ v : Int, vs = [.int v] ∧ Q (.int (vp v)) H
theorem sc_vector_part : FnScope ["part"] ["part"] (defScope s_vector_part) := ⟨rfl, rfl, rfl, by decide +kernel, rfl, by decide +kernel, by decide +kernel⟩
theorem d_vector_part (C : Ct mg) (D : Df K mg "vector_part" s_vector_part) : Dk P w K mg base CX0 1 "vector_part" ["part"] spVp := by
  refine Dk.mk' D sc_vector_part (fun _ _ _ _ _ _ us hl => match us, hl with | [_], _ => rfl) (fun vs H Q E h => ?_) (fun cdv A outer s H vs Q E hr h => ?_)
  · obtain ⟨i, rfl, _⟩ := h
    rfl
  · obtain ⟨v, rfl, q⟩ := h
    refine ⟨_, pss_one (ps_ret (pe_op op_sub (pe_op op_mod (pe_op op_add (pv 0) (pgI C.mostVector)) (pgI C.turn)) (pgI C.mostVector))), ?_⟩
    exact ⟨_, rfl, _, _, rfl, rfl, _, _, rfl, rfl, by show (0 : Int) < 65; decide, _, _, rfl, rfl, q⟩
/-- digits, the least first -/
def ups (b v : Int) : Nat → List Int
  | 0 => []
  | m + 1 => ups b v m ++ [v / b ^ m % b]
theorem ups_len (b v : Int) : ∀ m, (ups b v m).length = m
  | 0 => rfl
  | m + 1 => by
    show (ups b v m ++ [_]).length = m + 1
    rw [List.length_append, ups_len b v m]; rfl
theorem digs_cons : ∀ (m : Nat) (v : Int), digs v (m + 1) = (v / 256 ^ m % 256) :: digs v m
  | 0, v => by
    show [] ++ [v % 256] = [v / 256 ^ 0 % 256]
    simp
  | m + 1, v => by
    show digs (v / 256) (m + 1) ++ [v % 256] = (v / 256 ^ (m + 1) % 256) :: (digs (v / 256) m ++ [v % 256])
    rw [digs_cons m (v / 256), Int.pow_succ', Int.ediv_ediv_of_nonneg (by decide)]
    rfl
theorem ups_digs (v : Int) : ∀ m, (ups 256 v m).reverse = digs v m
  | 0 => rfl
  | m + 1 => by
    show (ups 256 v m ++ [_]).reverse = _
    rw [List.reverse_append, ups_digs v m, digs_cons]
    rfl
def lowI (v : Int) (m : Nat) : List Int := (lowF v m).map b2i
theorem ups_low (v : Int) : ∀ m, (ups 2 v m).reverse = lowI v m
  | 0 => rfl
  | m + 1 => by
    show (ups 2 v m ++ [v / 2 ^ m % 2]).reverse = b2i (decide (v / 2 ^ m % 2 = 1)) :: lowI v m
    rw [List.reverse_append, ups_low v m]
    have : v / 2 ^ m % 2 = b2i (decide (v / 2 ^ m % 2 = 1)) := by
      by_cases c : v / 2 ^ m % 2 = 1
      · rw [decide_eq_true c, c]; rfl
      · rw [decide_eq_false c]
        show v / 2 ^ m % 2 = 0
        omega
    rw [← this]
    rfl
theorem ups_step {b : Int} (hb : 0 < b) (v : Int) (m : Nat) : v / b ^ m / b = v / b ^ (m + 1) := by
  rw [Int.pow_succ, Int.ediv_ediv_of_nonneg (Int.le_of_lt (Int.pow_pos hb))]
def spLower : Sp := fun vs H Q _ => ∃ (v : Int) (m : Nat), vs = [.int v, .int m] ∧ m ≤ 10000 ∧ ∀ p H', H p = none → Same H H' → H' p = some (.lst ((lowI v m).map V.int)) → Q (.ref p) H'
theorem sc_lower : FnScope ["number", "many", "found", "at"] ["number", "many"] (defScope s_lower_signs) := ⟨rfl, rfl, rfl, by decide +kernel, rfl, by decide +kernel, by decide +kernel⟩
theorem d_lower (B : Bt mg) (D : Df K mg "lower_signs" s_lower_signs) : Dk P w K mg base CX0 1 "lower_signs" ["number", "many"] spLower := by
  refine Dk.mk' D sc_lower (fun _ _ _ _ _ _ us hl => match us, hl with | [_, _], _ => rfl) (fun vs H Q E h => ?_) (fun cdv A outer s H vs Q E hr h => ?_)
  · obtain ⟨i, m, rfl, _⟩ := h
    rfl
  · obtain ⟨v, m, rfl, hm, q⟩ := h
    refine ⟨_, pss_cons (ps_set (i := 2) sc_lower.nd rfl (.inl rfl) (pe_lst pa_nil)) (pss_cons (ps_for PassesOwn.never rfl (pi_range1 rfl B.range (pa_cons (pv 1) pa_nil)) (pg_name (i := 3) sc_lower.nd rfl (.inl rfl))
      (pss_cons (ps_expr (pe_bm PySem.F.plainAttrs_list PySem.F.slot_list_append PySem.F.type_list_append mt_append (pv 2) (pa_cons (pe_op op_mod (pv 0) pe_int) pa_nil)))
        (pss_one (ps_set (i := 0) sc_lower.nd rfl (.inl rfl) (pe_op op_fdiv (pv 0) pe_int))))) (pss_one (ps_ret (pe_revL (pv 2))))), ?_⟩
    refine ⟨Nat.zero_le _, fun l hl => ?_⟩
    refine ⟨_, rfl, m, rfl, by omega, by omega, for_range (lo := 0) (n := (m : Int).toNat) (fun i σ H' => ∃ z : Option V, σ = [some (.int (v / 2 ^ i)), some (.int m), some (.ref l), z] ∧ Same H H' ∧ H' l = some (.lst ((ups 2 v i).map V.int)))
      ⟨none, by rw [Int.pow_zero, Int.ediv_one]; rfl, Same.new hl, upd_same⟩ ?_ ?_⟩
    · rintro i σ H' hi ⟨z, rfl, s1, hL⟩
      have hi' : i < m := by omega
      refine ⟨_, rfl, .inl ⟨rfl, _, SqL.of hL⟩, _, rfl, _, _, rfl, rfl, by show (0 : Int) < 2; decide, l, _, _, rfl, rfl, hL, ?_, ?_⟩
      · rw [List.length_map, ups_len]; exact Nat.lt_of_lt_of_le hi' (Nat.le_trans hm (by decide))
      · refine ⟨_, rfl, _, _, rfl, rfl, ⟨by decide, by decide⟩, some (.int (0 + (i : Nat))), ?_, s1.more hl, ?_⟩
        · rw [← ups_step (by decide) v i]; rfl
        · rw [upd_same]
          show _ = some (HO.lst ((ups 2 v i ++ [_]).map V.int))
          rw [List.map_append]
          rfl
    · rintro σ H' ⟨z, rfl, s1, hL⟩
      refine ⟨_, rfl, l, _, rfl, SqL.of hL, fun p hp => ?_⟩
      refine q p _ (s1.free hp) (s1.more (s1.free hp)) ?_
      rw [upd_same, ← List.map_reverse, ups_low]
      rfl
def spLetters : Sp := fun vs H Q _ => ∃ (v : Int) (m : Nat), vs = [.int v, .int m] ∧ m ≤ 10000 ∧ ∀ p H', H p = none → Same H H' → H' p = some (.tup ((digs v m).map V.int)) → Q (.ref p) H'
theorem sc_letters_in : FnScope ["number", "many", "found", "at"] ["number", "many"] (defScope s_letters_in) := ⟨rfl, rfl, rfl, by decide +kernel, rfl, by decide +kernel, by decide +kernel⟩
theorem d_letters_in (B : Bt mg) (D : Df K mg "letters_in" s_letters_in) : Dk P w K mg base CX0 1 "letters_in" ["number", "many"] spLetters := by
  refine Dk.mk' D sc_letters_in (fun _ _ _ _ _ _ us hl => match us, hl with | [_, _], _ => rfl) (fun vs H Q E h => ?_) (fun cdv A outer s H vs Q E hr h => ?_)
  · obtain ⟨i, m, rfl, _⟩ := h
    rfl
  · obtain ⟨v, m, rfl, hm, q⟩ := h
    refine ⟨_, pss_cons (ps_set (i := 2) sc_letters_in.nd rfl (.inl rfl) (pe_lst pa_nil)) (pss_cons (ps_for PassesOwn.never rfl (pi_range1 rfl B.range (pa_cons (pv 1) pa_nil)) (pg_name (i := 3) sc_letters_in.nd rfl (.inl rfl))
      (pss_cons (ps_expr (pe_bm PySem.F.plainAttrs_list PySem.F.slot_list_append PySem.F.type_list_append mt_append (pv 2) (pa_cons (pe_op op_mod (pv 0) pe_int) pa_nil)))
        (pss_one (ps_set (i := 0) sc_letters_in.nd rfl (.inl rfl) (pe_op op_fdiv (pv 0) pe_int))))) (pss_one (ps_ret (pT call_tuple_of B.tuple (pa_cons (pe_revL (pv 2)) pa_nil))))), ?_⟩
    refine ⟨Nat.zero_le _, fun l hl => ?_⟩
    refine ⟨_, rfl, m, rfl, by omega, by omega, for_range (lo := 0) (n := (m : Int).toNat) (fun i σ H' => ∃ z : Option V, σ = [some (.int (v / 256 ^ i)), some (.int m), some (.ref l), z] ∧ Same H H' ∧ H' l = some (.lst ((ups 256 v i).map V.int)))
      ⟨none, by rw [Int.pow_zero, Int.ediv_one]; rfl, Same.new hl, upd_same⟩ ?_ ?_⟩
    · rintro i σ H' hi ⟨z, rfl, s1, hL⟩
      have hi' : i < m := by omega
      refine ⟨_, rfl, .inl ⟨rfl, _, SqL.of hL⟩, _, rfl, _, _, rfl, rfl, by show (0 : Int) < 256; decide, l, _, _, rfl, rfl, hL, ?_, ?_⟩
      · rw [List.length_map, ups_len]; exact Nat.lt_of_lt_of_le hi' (Nat.le_trans hm (by decide))
      · refine ⟨_, rfl, _, _, rfl, rfl, ⟨by decide, by decide⟩, some (.int (0 + (i : Nat))), ?_, s1.more hl, ?_⟩
        · rw [← ups_step (by decide) v i]; rfl
        · rw [upd_same]
          show _ = some (HO.lst ((ups 256 v i ++ [_]).map V.int))
          rw [List.map_append]
          rfl
    · rintro σ H' ⟨z, rfl, s1, hL⟩
      refine ⟨_, rfl, l, _, rfl, SqL.of hL, fun p hp => ?_⟩
      refine ⟨p, _, rfl, .inl ⟨SqL.of upd_same, fun r hr => ?_⟩⟩
      have s2 : Same H (upd H' p (.lst (List.map V.int (ups 256 v (m : Int).toNat)).reverse)) := s1.more (s1.free hp)
      refine q r _ (s2.free hr) (s2.more (s2.free hr)) ?_
      rw [upd_same, ← List.map_reverse, ups_digs]
      rfl
end K4
namespace K4
open PySem PySem.Spec PyProof.Rows L2
variable {P : Program} {w : World} {K : PySem.W.Frag} {mg : Str → Option Value} {base : Heap}
/-! ### methods -/
/-- a class's method as the top leaves it (the class's own or one above it) -/
structure Dm (K : PySem.W.Frag) (C : Addr) (m q : Str) (st : Stmt) : Prop where
  fn : ∃ fd, FnP K m q st (He.ma K C m) fd
  mt : Meth K C m (He.ma K C m)
structure Mk4 (P : Program) (w : World) (K : PySem.W.Frag) (mg : Str → Option Value) (base : Heap) (k : Nat) (C : Addr) (m : Str) (ps : List Str) (sp : Sp) : Prop where
  ok : ∃ fd, FnOk P w K mg base CX0 k (He.ma K C m) fd ps sp ∧ Binds K fd ps []
  mt : Meth K C m (He.ma K C m)
  cl : Cls K C
theorem Mk4.mk' {C : Addr} {m q : Str} {st : Stmt} {N ps : List Str} {k : Nat} {sp : Sp} (c : Cls K C) (D : Dm K C m q st) (S : FnScope N ps (defScope st))
    (hb : ∀ (kV doc pm : Value) (an : Option Addr) (cdv ct : Value) (us : List Value), us.length = ps.length → bindArgs (PySem.W.fnOf m q (defArgs st) (defBody st) (defScope st) .none kV doc pm an cdv ct) ⟨us, []⟩ = pure (ps.zip us))
    (len : ∀ vs H Q E, sp vs H Q E → vs.length = ps.length)
    (hbody : ∀ (cdv : Value) (A : Around) (outer : List Env) (s : Shared) (H : Hp) (vs : List V) (Q : VK) (E : XK), Room k (A.deeper (envOfC q (defScope st) s.heap.objs.size (He.ma K C m) cdv)) → sp vs H Q E →
      ∃ t, PSs (cxOf CX0 P w K mg base N q (defScope st) (He.ma K C m) cdv A outer s H E).nox (defBody st) t ∧ t { nx := fun _ H' => Q .non H', rt := Q } (start N vs) H) : Mk4 P w K mg base (k + 1) C m ps sp := by
  obtain ⟨fd, F⟩ := D.fn
  refine ⟨⟨fd, F.ok S len fun cdv A outer s H vs Q E hr h => ?_, F.bindsN hb⟩, D.mt, c⟩
  obtain ⟨t, h1, h2⟩ := hbody cdv A outer s H vs Q E hr h
  exact ⟨t, h1.nox, h2⟩
section
variable {X : Cx} {C : Addr} {m : Str} {ps : List Str} {sp : Sp} {k j : Nat} {o e : Expr} {es : List Expr} {ta : TE} {t : TA} {apos pos : Pos}
theorem pmeth {pl : Sem Bool} (M : Mk4 X.prog X.w X.K X.mg X.base k C m ps sp) (hr : Room j X.A) (hkj : k ≤ j) (he : PE X o ta) (ha : PA X (e :: es) t)
    (ht : eval (.Call (.Attribute o m apos) (e :: es) [] pos) X.env = (do
      let ov ← eval o X.env
      standAt apos.atName
      let (f, first) ← holding [ov] (getMethod ov m pl)
      callWith pos f first (backTo pos (starEach (e :: es) X.env)) (backToKw pos (keywordEach [] X.env))) := by rfl)
    (hs : starEach (e :: es) X.env = (false, eval e X.env) :: starEach es X.env := by rfl) (hpl : (backTo pos (starEach es X.env)).any (·.1) = false := by rfl) :
    PE X (.Call (.Attribute o m apos) (e :: es) [] pos) (tMeth C m sp [] E0 ta t) := by
  obtain ⟨fd, F, b⟩ := M.ok
  exact pe_meth he M.cl M.mt F (hr.mono hkj) b .nil pass0 ha (ht := ht) hs hpl
theorem pmeth0 {pl : Sem Bool} (M : Mk4 X.prog X.w X.K X.mg X.base k C m ps sp) (hr : Room j X.A) (hkj : k ≤ j) (he : PE X o ta)
    (ht : eval (.Call (.Attribute o m apos) [] [] pos) X.env = (do
      let ov ← eval o X.env
      standAt apos.atName
      let (f, first) ← holding [ov] (getMethod ov m pl)
      callWith pos f first (backTo pos (starEach [] X.env)) (backToKw pos (keywordEach [] X.env))) := by rfl) :
    PE X (.Call (.Attribute o m apos) [] [] pos) (tMeth C m sp [] E0 ta tNil) := by
  obtain ⟨fd, F, b⟩ := M.ok
  exact pe_meth0 he M.cl M.mt F (hr.mono hkj) b .nil pass0 (ht := ht)
end
theorem vi_eq {i j : Int} (c : decide (V.int i = V.int j) = true) : i = j := by
  have h := of_decide_eq_true c
  injection h
theorem vi_ne {i j : Int} (c : ¬ decide (V.int i = V.int j) = true) : ¬ i = j := fun e => c (decide_eq_true (congrArg V.int e))
/-! ### a coder's fields -/
def cf (l b r n : Int) (d : Addr) (ex : List (Str × V)) : List (Str × V) := ("low", .int l) :: ("breadth", .int b) :: ("room", .int r) :: ("sent", .int n) :: ("learned_ones", .ref d) :: ex
section
variable {l b r n v : Int} {d : Addr} {ex : List (Str × V)}
theorem lk_pos {f : Str} {x : V} {fs : List (Str × V)} : ((f, x) :: fs).lookup f = some x := by simp [List.lookup]
theorem lk_neg {f g : Str} {x : V} {fs : List (Str × V)} (h : ¬ g = f) : ((f, x) :: fs).lookup g = fs.lookup g := by
  have e : (g == f) = false := beq_eq_false_iff_ne.mpr h
  simp only [List.lookup, e]
theorem cf_low : (cf l b r n d ex).lookup ("low" : Str) = some (.int l) := lk_pos
theorem cf_breadth : (cf l b r n d ex).lookup ("breadth" : Str) = some (.int b) := (lk_neg (by decide +kernel)).trans lk_pos
theorem cf_room : (cf l b r n d ex).lookup ("room" : Str) = some (.int r) := (lk_neg (by decide +kernel)).trans ((lk_neg (by decide +kernel)).trans lk_pos)
theorem cf_sent : (cf l b r n d ex).lookup ("sent" : Str) = some (.int n) := (lk_neg (by decide +kernel)).trans ((lk_neg (by decide +kernel)).trans ((lk_neg (by decide +kernel)).trans lk_pos))
theorem cf_learned : (cf l b r n d ex).lookup ("learned_ones" : Str) = some (.ref d) := (lk_neg (by decide +kernel)).trans ((lk_neg (by decide +kernel)).trans ((lk_neg (by decide +kernel)).trans ((lk_neg (by decide +kernel)).trans lk_pos)))
theorem cf_no {m : Str} (h : (["low", "breadth", "room", "sent", "learned_ones"] : List Str).contains m = false) : (cf l b r n d ex).lookup m = ex.lookup m := by
  simp only [List.contains_cons, List.contains_nil, Bool.or_eq_false_iff, beq_eq_false_iff_ne] at h
  obtain ⟨h1, h2, h3, h4, h5, _⟩ := h
  exact (lk_neg h1).trans ((lk_neg h2).trans ((lk_neg h3).trans ((lk_neg h4).trans (lk_neg h5))))
theorem pf_pos {f : Str} {x y : V} {fs : List (Str × V)} : putF f y ((f, x) :: fs) = (f, y) :: fs := if_pos rfl
theorem pf_neg {f g : Str} {x y : V} {fs : List (Str × V)} (h : ¬ g = f) : putF f y ((g, x) :: fs) = (g, x) :: putF f y fs := if_neg h
theorem cf_put_low : putF "low" (.int v) (cf l b r n d ex) = cf v b r n d ex := pf_pos
theorem cf_put_breadth : putF "breadth" (.int v) (cf l b r n d ex) = cf l v r n d ex := (pf_neg (by decide +kernel)).trans (congrArg _ pf_pos)
theorem cf_put_room : putF "room" (.int v) (cf l b r n d ex) = cf l b v n d ex := (pf_neg (by decide +kernel)).trans (congrArg _ ((pf_neg (by decide +kernel)).trans (congrArg _ pf_pos)))
theorem cf_put_sent : putF "sent" (.int v) (cf l b r n d ex) = cf l b r v d ex := (pf_neg (by decide +kernel)).trans (congrArg _ ((pf_neg (by decide +kernel)).trans (congrArg _ ((pf_neg (by decide +kernel)).trans (congrArg _ pf_pos)))))
theorem cf_put {f : Str} {x : V} (h : (["low", "breadth", "room", "sent", "learned_ones"] : List Str).contains f = false) : putF f x (cf l b r n d ex) = cf l b r n d (putF f x ex) := by
  simp only [List.contains_cons, List.contains_nil, Bool.or_eq_false_iff, beq_eq_false_iff_ne] at h
  obtain ⟨h1, h2, h3, h4, h5, _⟩ := h
  exact (pf_neg (Ne.symm h1)).trans (congrArg _ ((pf_neg (Ne.symm h2)).trans (congrArg _ ((pf_neg (Ne.symm h3)).trans (congrArg _ ((pf_neg (Ne.symm h4)).trans (congrArg _ (pf_neg (Ne.symm h5)))))))))
theorem cf_len : (cf l b r n d ex).length = ex.length + 5 := rfl
end
/-! ### a coder in the heap -/
/-- what the class must have -/
structure Cc (K : PySem.W.Frag) (C : Addr) : Prop where
  cl : Cls K C
  low : NoAttr K C "low"
  breadth : NoAttr K C "breadth"
  room : NoAttr K C "room"
  sent : NoAttr K C "sent"
  learned : NoAttr K C "learned_ones"
/-- the names' chances -/
def ChD (kvs : List (Key × V)) (ch : Str → Int) : Prop := ∀ x : Str, (valV kvs (Sum.inr x)).getD (.int 1024) = .int (ch x)
/-- the object alone: its numbers, what it has besides -/
structure CoO (C : Addr) (ex : Nat → List (Str × V)) (p d : Addr) (H : Hp) (s : CS Str) : Prop where
  ob : ∃ dx, H p = some (.ins C dx (cf s.low s.wide (256 ^ (s.n + 4)) s.n d (ex s.n)))
  ok : Ok s
structure CoS (C : Addr) (ex : Nat → List (Str × V)) (p d : Addr) (H : Hp) (s : CS Str) : Prop extends CoO C ex p d H s where
  dc : ∃ kvs, H d = some (.dK kvs) ∧ ChD kvs s.ch ∧ kvs.length ≤ s.m
/-- all else is as it was -/
def But (p d : Addr) (H H' : Hp) : Prop := ∀ b o, H b = some o → b ≠ p → b ≠ d → H' b = some o
theorem But.refl {p d : Addr} (H : Hp) : But p d H H := fun _ _ h _ _ => h
theorem But.trans {p d : Addr} {H H1 H2 : Hp} (a : But p d H H1) (b : But p d H1 H2) : But p d H H2 := fun c o h n1 n2 => b c o (a c o h n1 n2) n1 n2
theorem But.of_same {p d : Addr} {H H' : Hp} (s : Same H H') : But p d H H' := fun c o h _ _ => s c o h
theorem But.upd1 {p d : Addr} {H H' : Hp} {o : HO} (s : But p d H H') : But p d H (upd H' p o) := fun c u h n1 n2 => by
  rw [upd_ne n1]; exact s c u h n1 n2
theorem But.upd2 {p d : Addr} {H H' : Hp} {o : HO} (s : But p d H H') : But p d H (upd H' d o) := fun c u h n1 n2 => by
  rw [upd_ne n2]; exact s c u h n1 n2
/-! ### chance_of, learn, came, narrowed -/
section
variable {C : Addr} {ex : Nat → List (Str × V)} {J : Hp → Prop}
def exNo (ex : Nat → List (Str × V)) : Prop := ∀ (n : Nat) (m : Str), (["chance_of", "learn", "came", "narrowed", "bit", "even", "number", "letters", "sign_at", "read_by"] : List Str).contains m = true → (ex n).lookup m = none
theorem cf_meth {l b r n : Int} {d : Addr} (e : exNo ex) {k : Nat} {m : Str} (h : (["chance_of", "learn", "came", "narrowed", "bit", "even", "number", "letters", "sign_at", "read_by"] : List Str).contains m = true := by decide +kernel)
    (h2 : (["low", "breadth", "room", "sent", "learned_ones"] : List Str).contains m = false := by decide +kernel) : (cf l b r n d (ex k)).lookup m = none := (cf_no h2).trans (e k m h)
def spChance (C : Addr) : Sp := fun vs H Q _ => ∃ (p d dx : Addr) (x : Str) (l b r n : Int) (e : List (Str × V)) (kvs : List (Key × V)) (ch : Str → Int), vs = [.ref p, .str x] ∧ H p = some (.ins C dx (cf l b r n d e)) ∧ H d = some (.dK kvs) ∧ ChD kvs ch ∧ Q (.int (ch x)) H
theorem sc_chance : FnScope ["self", "name"] ["self", "name"] (defScope sm_Coder_chance_of) := ⟨rfl, rfl, rfl, by decide +kernel, rfl, by decide +kernel, by decide +kernel⟩
theorem d_chance (N : Ct mg) (c : Cc K C) (D : Dm K C "chance_of" "Coder.chance_of" sm_Coder_chance_of) : Mk4 P w K mg base 1 C "chance_of" ["self", "name"] (spChance C) := by
  refine Mk4.mk' c.cl D sc_chance (fun _ _ _ _ _ _ us hl => match us, hl with | [_, _], _ => rfl) (fun vs H Q E h => ?_) (fun cdv A outer s H vs Q E hr h => ?_)
  · obtain ⟨p, d, dx, x, l, b, r, n, e, kvs, ch, rfl, _⟩ := h
    rfl
  · obtain ⟨p, d, dx, x, l, b, r, n, e, kvs, ch, rfl, hp, hd, hc, q⟩ := h
    have hu := hu_of hr
    refine ⟨_, pss_one (ps_ret (pe_dget2 hu (pe_fld (pv 0) rfl) (pv 1) (pgI N.even) ⟨rfl, rfl, rfl, rfl⟩)), ?_⟩
    refine ⟨_, rfl, p, C, dx, _, _, rfl, hp, c.cl, c.learned, cf_learned, d, rfl, .inl ⟨kvs, .inl hd⟩, _, rfl, _, DGet.k (k := Sum.inr x) hd, ?_⟩
    rw [hc x]
    exact q
def spLearn (C : Addr) : Sp := fun vs H Q _ => ∃ (p d dx : Addr) (x : Str) (l b r n c v : Int) (e : List (Str × V)) (kvs : List (Key × V)), vs = [.ref p, .str x, .int c, .int v] ∧ H p = some (.ins C dx (cf l b r n d e)) ∧ H d = some (.dK kvs) ∧ kvs.length ≤ 10000 ∧ 0 ≤ c ∧ c ≤ 2048 ∧
  Q .non (upd H d (.dK (putK kvs (Sum.inr x) (.int (if v = 0 then c + (2048 - c) / 32 else c - c / 32)))))
theorem sc_learn : FnScope ["self", "name", "chance", "value"] ["self", "name", "chance", "value"] (defScope sm_Coder_learn) := ⟨rfl, rfl, rfl, by decide +kernel, rfl, by decide +kernel, by decide +kernel⟩
theorem d_learn (N : Ct mg) (c : Cc K C) (D : Dm K C "learn" "Coder.learn" sm_Coder_learn) : Mk4 P w K mg base 1 C "learn" ["self", "name", "chance", "value"] (spLearn C) := by
  refine Mk4.mk' c.cl D sc_learn (fun _ _ _ _ _ _ us hl => match us, hl with | [_, _, _, _], _ => rfl) (fun vs H Q E h => ?_) (fun cdv A outer s H vs Q E hr h => ?_)
  · obtain ⟨p, d, dx, x, l, b, r, n, c, v, e, kvs, rfl, _⟩ := h
    rfl
  · obtain ⟨p, d, dx, x, l, b, r, n, u, v, e, kvs, rfl, hp, hd, hl, h0, h1, q⟩ := h
    have hu := hu_of hr
    refine ⟨_, pss_one (ps_dput hu (pe_fld (pv 0) rfl) (pv 1) (pe_ifExp (pt_cmpR op_eq (pv 3) pe_int (nomark _)) (pe_op op_add (pv 2) (pe_op op_fdiv (pe_op op_sub (pgI N.whole) (pv 2)) (pgI N.slow))) (pe_op op_sub (pv 2) (pe_op op_fdiv (pv 2) (pgI N.slow)))) rfl), ?_⟩
    refine ⟨_, rfl, rfl, _, rfl, ite2 (fun cc => ?_) (fun cc => ?_)⟩
    · have hv := vi_eq cc
      refine ⟨_, rfl, _, rfl, _, _, rfl, rfl, _, _, rfl, rfl, ⟨by decide, by decide⟩, _, _, rfl, rfl, _, rfl, p, C, dx, _, _, rfl, hp, c.cl, c.learned, cf_learned, _, rfl, d, _, rfl, DPut.k (k := Sum.inr x) hd (Nat.lt_of_le_of_lt hl (by decide)), ?_⟩
      rw [if_pos hv] at q
      exact q
    · have hv := vi_ne cc
      refine ⟨_, rfl, _, rfl, _, _, rfl, rfl, ⟨by decide, by decide⟩, _, _, rfl, rfl, _, rfl, p, C, dx, _, _, rfl, hp, c.cl, c.learned, cf_learned, _, rfl, d, _, rfl, DPut.k (k := Sum.inr x) hd (Nat.lt_of_le_of_lt hl (by decide)), ?_⟩
      rw [if_neg hv] at q
      exact q
/-! came, told by what it does to what the object has besides -/
def spCame (C : Addr) (ex : Nat → List (Str × V)) (J : Hp → Prop) : Sp := fun vs H Q _ => ∃ (p d dx : Addr) (l b r : Int) (n : Nat), vs = [.ref p] ∧ H p = some (.ins C dx (cf l b r ((n + 1 : Nat) : Int) d (ex n))) ∧ J H ∧
  Q .non (upd H p (.ins C dx (cf l b r ((n + 1 : Nat) : Int) d (ex (n + 1)))))
def Kept (C : Addr) (J : Hp → Prop) : Prop := ∀ (H : Hp) (p dx dx' : Addr) (fs fs' : List (Str × V)), H p = some (.ins C dx fs) → J H → J (upd H p (.ins C dx' fs'))
theorem in_mul : InOp X .Mult (rI CMul fun i j => .int (i * j)) := fun pins s σ H x y u v Q I rx ry h => iop_mul pins s σ H x y u v Q I rx ry h
theorem small_mul {i : Int} : CMul i 256 := .inr ⟨by decide, by decide⟩
/-- narrowed -/
def spNarrow (C : Addr) (ex : Nat → List (Str × V)) (J : Hp → Prop) : Sp := fun vs H Q _ => ∃ (p d : Addr) (o : Option Str) (b : Bool) (s : CS Str), vs = [.ref p, .int (part o s), .int (b2i b)] ∧ CoO C ex p d H s ∧ J H ∧
  ∀ dx', CoO C ex p d (upd H p (.ins C dx' (cf (step o b s).low (step o b s).wide (256 ^ ((step o b s).n + 4)) (step o b s).n d (ex (step o b s).n)))) (step o b s) →
    Q .non (upd H p (.ins C dx' (cf (step o b s).low (step o b s).wide (256 ^ ((step o b s).n + 4)) (step o b s).n d (ex (step o b s).n))))
theorem sc_narrowed : FnScope ["self", "part", "value"] ["self", "part", "value"] (defScope sm_Coder_narrowed) := ⟨rfl, rfl, rfl, by decide +kernel, rfl, by decide +kernel, by decide +kernel⟩
theorem d_narrowed {k : Nat} (N : Ct mg) (c : Cc K C) (hJ : Kept C J) (hx : exNo ex) (hl : ∀ n, (ex n).length ≤ 100) (D : Dm K C "narrowed" "Coder.narrowed" sm_Coder_narrowed) (G : Mk4 P w K mg base k C "came" ["self"] (spCame C ex J)) :
    Mk4 P w K mg base (k + 1) C "narrowed" ["self", "part", "value"] (spNarrow C ex J) := by
  refine Mk4.mk' c.cl D sc_narrowed (fun _ _ _ _ _ _ us hl => match us, hl with | [_, _, _], _ => rfl) (fun vs H Q E h => ?_) (fun cdv A outer s H vs Q E hr h => ?_)
  · obtain ⟨p, d, o, b, s, rfl, _⟩ := h
    rfl
  · obtain ⟨p, d, o, b, s1, rfl, ⟨⟨dx, hp⟩, hok⟩, hj, q⟩ := h
    refine ⟨_, pss_cons (ps_if (pt_cmpR op_eq (pv 2) pe_int (nomark _)) (pss_one (ps_fld (pv 0) (pv 1) rfl)) (pss_cons (ps_fldaug (pv 0) (pv 1) in_add) (pss_one (ps_fldaug (pv 0) (pv 1) in_sub))))
      (pss_one (ps_while PassesOwn.never (pt_cmpR op_lt (pe_fld (pv 0) rfl) (pgI N.leastBreadth) (nomark _))
        (pss_cons (ps_fldaug (pv 0) pe_int in_mul) (pss_cons (ps_fldaug (pv 0) pe_int in_mul) (pss_cons (ps_fldaug (pv 0) pe_int in_mul) (pss_cons (ps_fldaug (pv 0) pe_int in_add)
          (pss_one (ps_expr (pmeth0 G hr (Nat.le_refl _) (pv 0)))))))))), ?_⟩
    have lim : ∀ (l b r n : Int), (cf l b r n d (ex s1.n)).length < 1000 := fun l b r n => by rw [cf_len]; have := hl s1.n; omega
    -- behind the if
    have loop : ∀ H' : Hp, H' = upd H p (.ins C dx (cf (low1 o b s1) (wide1 o b s1) (256 ^ (s1.n + 4)) s1.n d (ex s1.n))) →
        tWhile (tTest (tOp (rI0 fun i j => .bl (decide (i < j))) (tFld K (tVar 0) "breadth") (tC (.int 16777216))))
          (tSeq (sFldAug K (tVar 0) (tC (.int 256)) (rI CMul fun i j => .int (i * j)) "low") (tSeq (sFldAug K (tVar 0) (tC (.int 256)) (rI CMul fun i j => .int (i * j)) "breadth")
            (tSeq (sFldAug K (tVar 0) (tC (.int 256)) (rI CMul fun i j => .int (i * j)) "room") (tSeq (sFldAug K (tVar 0) (tC (.int 1)) rAdd "sent") (tDrop (tMeth C "came" (spCame C ex J) [] E0 (tVar 0) tNil))))))
          { nx := fun _ H' => Q .non H', rt := Q } [some (.ref p), some (.int (part o s1)), some (.int (b2i b))] H' := by
      rintro H' rfl
      have kept := hok.step o b
      refine ⟨fun m σ H' => σ = [some (.ref p), some (.int (part o s1)), some (.int (b2i b))] ∧
        ((m = 1 ∧ H' = upd H p (.ins C dx (cf (low1 o b s1) (wide1 o b s1) (256 ^ (s1.n + 4)) s1.n d (ex s1.n)))) ∨
          (m = 0 ∧ H' = upd H p (.ins C dx (cf (step o b s1).low (step o b s1).wide (256 ^ ((step o b s1).n + 4)) (step o b s1).n d (ex (step o b s1).n))))), ⟨1, rfl, .inl ⟨rfl, rfl⟩⟩, ?_⟩
      rintro m σ H' ⟨rfl, ⟨rfl, rfl⟩ | ⟨rfl, rfl⟩⟩
      · refine ⟨_, rfl, p, C, dx, _, _, rfl, upd_same, c.cl, c.breadth, cf_breadth, _, _, rfl, rfl, _, rfl, ite2 (fun cc => ?_) (fun cc => ?_)⟩
        · have c1 : wide1 o b s1 < 16777216 := of_decide_eq_true cc
          have es : step o b s1 = ⟨low1 o b s1 * 256, wide1 o b s1 * 256, s1.n + 1, s1.m + 1, chUp o b s1⟩ := if_pos c1
          refine ⟨fun σ' H'' => σ' = [some (.ref p), some (.int (part o s1)), some (.int (b2i b))] ∧ H'' = upd H p (.ins C dx (cf (step o b s1).low (step o b s1).wide (256 ^ ((step o b s1).n + 4)) (step o b s1).n d (ex (step o b s1).n))),
            fun σ' H'' e => ⟨0, by decide, e.1, .inr ⟨rfl, e.2⟩⟩, ?_⟩
          refine ⟨_, rfl, p, C, dx, _, _, rfl, upd_same, c.cl, c.low, cf_low, _, _, rfl, rfl, small_mul, dx, _, upd_same, lim _ _ _ _, ?_⟩
          rw [upd_upd, cf_put_low]
          refine ⟨_, rfl, p, C, dx, _, _, rfl, upd_same, c.cl, c.breadth, cf_breadth, _, _, rfl, rfl, small_mul, dx, _, upd_same, lim _ _ _ _, ?_⟩
          rw [upd_upd, cf_put_breadth]
          refine ⟨_, rfl, p, C, dx, _, _, rfl, upd_same, c.cl, c.room, cf_room, _, _, rfl, rfl, small_mul, dx, _, upd_same, lim _ _ _ _, ?_⟩
          rw [upd_upd, cf_put_room]
          refine ⟨_, rfl, p, C, dx, _, _, rfl, upd_same, c.cl, c.sent, cf_sent, _, _, rfl, rfl, dx, _, upd_same, lim _ _ _ _, ?_⟩
          rw [upd_upd, cf_put_sent]
          refine ⟨_, rfl, p, dx, _, rfl, upd_same, cf_meth hx, p, d, dx, _, _, _, s1.n, rfl, upd_same, hJ _ _ _ _ _ _ hp hj, rfl, ?_⟩
          rw [upd_upd, es]
          show _ = upd H p (.ins C dx (cf (low1 o b s1 * 256) (wide1 o b s1 * 256) (256 ^ (s1.n + 1 + 4)) ((s1.n + 1 : Nat) : Int) d (ex (s1.n + 1))))
          rw [show (256 : Int) ^ (s1.n + 1 + 4) = 256 ^ (s1.n + 4) * 256 from (congrArg (fun k => (256 : Int) ^ k) (show s1.n + 1 + 4 = (s1.n + 4) + 1 from by omega)).trans (Int.pow_succ ..)]
        · have c1 : ¬ wide1 o b s1 < 16777216 := fun z => cc (decide_eq_true z)
          have es : step o b s1 = ⟨low1 o b s1, wide1 o b s1, s1.n, s1.m + 1, chUp o b s1⟩ := if_neg c1
          have q' := q dx
          rw [es] at q' kept
          exact q' ⟨⟨dx, upd_same⟩, kept⟩
      · refine ⟨_, rfl, p, C, dx, _, _, rfl, upd_same, c.cl, c.breadth, cf_breadth, _, _, rfl, rfl, _, rfl, ?_⟩
        have c1 : ¬ (step o b s1).wide < 16777216 := by have := kept.lo; omega
        refine ite2 (fun cc => absurd (of_decide_eq_true cc) c1) (fun _ => ?_)
        exact q dx ⟨⟨dx, upd_same⟩, kept⟩
    cases b with
    | false =>
      refine ⟨_, rfl, rfl, _, rfl, iteT ?_⟩
      refine ⟨_, rfl, _, rfl, p, C, dx, _, rfl, hp, c.cl, c.breadth, lim _ _ _ _, ?_⟩
      rw [cf_put_breadth]
      exact loop _ rfl
    | true =>
      refine ⟨_, rfl, rfl, _, rfl, iteF ?_⟩
      refine ⟨_, rfl, p, C, dx, _, _, rfl, hp, c.cl, c.low, cf_low, _, rfl, _, _, rfl, rfl, dx, _, hp, lim _ _ _ _, ?_⟩
      rw [cf_put_low]
      refine ⟨_, rfl, p, C, dx, _, _, rfl, upd_same, c.cl, c.breadth, cf_breadth, _, rfl, _, _, rfl, rfl, dx, _, upd_same, lim _ _ _ _, ?_⟩
      rw [upd_upd, cf_put_breadth]
      exact loop _ rfl
end
end K4
namespace K4
open PySem PySem.Spec PyProof.Rows L2
variable {P : Program} {w : World} {K : PySem.W.Frag} {mg : Str → Option Value} {base : Heap}
/-! ### C.m(e, ..), m a def read off the class C -/
structure Cr (K : PySem.W.Frag) (C : Addr) (m : Str) (u : Value) : Prop where
  rd : PySem.W.readsIn K C (.type "type") = true
  ga : PySem.W.specialIn K (.ref C) "__getattribute__" = some (some (.builtin "type.__getattribute__"))
  at_ : PySem.W.findCls K (.ref C) (.type "type") m = some (.val u)
section
variable {X : Cx} {C f : Addr} {x m : Str} {ps : List Str} {sp : Sp} {k j : Nat} {e : Expr} {es : List Expr} {t : TA} {p1 apos pos : Pos} {fd : FuncData}
theorem pcls {pl : Sem Bool} (R : Cr X.K C m (.ref f)) (F : FnOk X.prog X.w X.K X.mg X.base CX0 k f fd ps sp) (b : Binds X.K fd ps []) (kp : PySem.W.keepIn X.K (.ref f) = true) (hr : Room j X.A) (hkj : k ≤ j) (hm : X.mg x = some (.ref C)) (ha : PA X (e :: es) t) (hg : Gl X x := by rfl)
    (ht : eval (.Call (.Attribute (.Name x p1) m apos) (e :: es) [] pos) X.env = (do
      let ov ← eval (.Name x p1) X.env
      standAt apos.atName
      let (f, first) ← holding [ov] (getMethod ov m pl)
      callWith pos f first (backTo pos (starEach (e :: es) X.env)) (backToKw pos (keywordEach [] X.env))) := by rfl)
    (hs : starEach (e :: es) X.env = (false, eval e X.env) :: starEach es X.env := by rfl) (hpl : (backTo pos (starEach es X.env)).any (·.1) = false := by rfl) (hdb : (x == ("__debug__" : Str)) = false := by decide) :
    PE X (.Call (.Attribute (.Name x p1) m apos) (e :: es) [] pos) (fun σ H Q => t σ H fun vs H1 => sp vs H1 Q E0) := by
  refine ⟨fun pins s σ H Q I h => ?_⟩
  refine PySem.W.methodCall_KW (pl := pl) (ld_glob I hg hm ?_ hdb) ht
  refine PySem.W.method_cls I.kIn R.ga (PySem.W.cls_value I.kIn R.rd R.at_ rfl ?_)
  refine PySem.W.callWith_K (first := []) (h₀ := X.base) I.ok.mod.kin kp (thn (ha.run pos pins _ σ H _ (I.tok _) h) fun us s2 ⟨vs, H2, I2, r, q2⟩ => ⟨I2.kIn, ?_⟩) hs hpl
  exact run_fn (us := us) (vs := vs) F (hr.mono hkj) b .nil pass0 I2 r (by rw [List.append_nil]; exact q2)
/-- D.__init__(self, ..), D an own class over ValueError without __init__ -/
theorem pe_vinit {pl : Sem Bool} (R : Cr X.K C "__init__" (.builtin "ValueError.__init__")) (hm : X.mg x = some (.ref C)) (ha : PA X (e :: es) t) (hg : Gl X x := by rfl)
    (hc : eval (.Call (.Attribute (.Name x p1) "__init__" apos) (e :: es) [] pos) X.env = (do
      let ov ← eval (.Name x p1) X.env
      standAt apos.atName
      let (f, first) ← holding [ov] (getMethod ov "__init__" pl)
      callWith pos f first (backTo pos (starEach (e :: es) X.env)) (backToKw pos (keywordEach [] X.env))) := by rfl)
    (he : starEach (e :: es) X.env = (false, eval e X.env) :: starEach es X.env := by rfl) (hpl : (backTo pos (starEach es X.env)).any (·.1) = false := by rfl) (hdb : (x == ("__debug__" : Str)) = false := by decide) :
    PE X (.Call (.Attribute (.Name x p1) "__init__" apos) (e :: es) [] pos) (tVeI X.K t) := by
  refine ⟨fun pins s σ H Q I h => ?_⟩
  refine PySem.W.methodCall_KW (pl := pl) (ld_glob I hg hm ?_ hdb) hc
  refine PySem.W.method_cls I.kIn R.ga (PySem.W.cls_value I.kIn R.rd R.at_ rfl ?_)
  show wpAny _ _ (callWith pos (Value.builtin "ValueError.__init__") [] (backTo pos (starEach (e :: es) X.env)) []) _ _ _
  refine PyProof.Rows.callWith_method1 (thn (ha.run pos pins _ σ H _ (I.tok _) h) fun us s1 ⟨vs, H1, I1, r1, a, D, ws, ev, hl, T, ea, q⟩ => ?_) he hpl
  subst ev
  cases r1 with
  | @cons _ u0 _ ur ra rw' =>
    obtain rfl : u0 = Value.ref a := ra
    have hlen : ur.length ≤ sizeLine := by
      rw [← Paired.length rw', sizeLine_eq]
      omega
    exact oinit_ok T I1 ea hlen fun s' J => ⟨.non, H1, J, rfl, q⟩
end
/-! ### Coder.__init__ -/
def spInit (C : Addr) : Sp := fun vs H Q _ => ∃ p dx : Addr, vs = [.ref p] ∧ H p = some (.ins C dx []) ∧ ∀ (d : Addr) (H' : Hp), H d = none → CoS C (fun _ => []) p d H' s0 → But p d H H' → Q .non H'
theorem sc_init : FnScope ["self"] ["self"] (defScope sm_Coder_init) := ⟨rfl, rfl, rfl, by decide +kernel, rfl, by decide +kernel, by decide +kernel⟩
theorem chd_nil : ChD [] (fun _ => 1024) := fun _ => rfl
theorem d_init {C f : Addr} {fd : FuncData} (N : Ct mg) (c : Cc K C) (F : FnP K "__init__" "Coder.__init__" sm_Coder_init f fd) : FnOk P w K mg base CX0 1 f fd ["self"] (spInit C) ∧ Binds K fd ["self"] [] := by
  refine ⟨F.ok sc_init (fun vs H Q E h => ?_) (fun cdv A outer s H vs Q E hr h => ?_), F.bindsN fun _ _ _ _ _ _ us hl => match us, hl with | [_], _ => rfl⟩
  · obtain ⟨p, dx, rfl, _⟩ := h
    rfl
  · obtain ⟨p, dx, rfl, hp, q⟩ := h
    refine ⟨_, PSs.nox (pss_cons (ps_fld (pv 0) pe_int rfl) (pss_cons (ps_fld (pv 0) (pgI N.firstBreadth) rfl) (pss_cons (ps_fld (pv 0) (pgI N.firstBreadth) rfl) (pss_cons (ps_fld (pv 0) pe_int rfl)
      (pss_one (ps_fld (pv 0) pe_dnewK rfl)))))), ?_⟩
    refine ⟨_, rfl, p, C, dx, [], rfl, hp, c.cl, c.low, by show 0 < 1000; decide, ?_⟩
    refine ⟨_, rfl, p, C, dx, _, rfl, upd_same, c.cl, c.breadth, by show 1 < 1000; decide, ?_⟩
    rw [upd_upd]
    refine ⟨_, rfl, p, C, dx, _, rfl, upd_same, c.cl, c.room, by show 2 < 1000; decide, ?_⟩
    rw [upd_upd]
    refine ⟨_, rfl, p, C, dx, _, rfl, upd_same, c.cl, c.sent, by show 3 < 1000; decide, ?_⟩
    rw [upd_upd]
    intro d hd
    have npd : p ≠ d := fun e => by rw [e, upd_same] at hd; cases hd
    have hd' : H d = none := by rw [upd_ne npd.symm] at hd; exact hd
    refine ⟨_, rfl, p, C, dx, _, rfl, by rw [upd_ne npd]; exact upd_same, c.cl, c.learned, by show 4 < 1000; decide, ?_⟩
    refine q d _ hd' ⟨⟨⟨dx, upd_same⟩, s0_ok⟩, [], by rw [upd_ne npd.symm]; exact upd_same, chd_nil, Nat.le_refl _⟩ ?_
    exact But.upd1 (But.upd2 (But.upd1 (But.refl H)))
/-! ### Writer: bit, even, number, letters -/
def ex0 : Nat → List (Str × V) := fun _ => []
def J0 : Hp → Prop := fun _ => True
theorem ex0_no : exNo ex0 := fun _ _ _ => rfl
theorem ex0_len : ∀ n, (ex0 n).length ≤ 100 := fun _ => Nat.zero_le _
theorem J0_kept {C : Addr} : Kept C J0 := fun _ _ _ _ _ _ _ _ => trivial
theorem sc_came : FnScope ["self"] ["self"] (defScope sm_Coder_came) := ⟨rfl, rfl, rfl, by decide +kernel, rfl, by decide +kernel, by decide +kernel⟩
theorem d_came {C : Addr} (c : Cls K C) (D : Dm K C "came" "Coder.came" sm_Coder_came) : Mk4 P w K mg base 1 C "came" ["self"] (spCame C ex0 J0) := by
  refine Mk4.mk' c D sc_came (fun _ _ _ _ _ _ us hl => match us, hl with | [_], _ => rfl) (fun vs H Q E h => ?_) (fun cdv A outer s H vs Q E hr h => ?_)
  · obtain ⟨p, d, dx, l, b, r, n, rfl, _⟩ := h
    rfl
  · obtain ⟨p, d, dx, l, b, r, n, rfl, hp, _, q⟩ := h
    refine ⟨_, pss_one (by first | exact ps_doc | exact ps_pass), ?_⟩
    have e : upd H p (.ins C dx (cf l b r ((n + 1 : Nat) : Int) d (ex0 (n + 1)))) = H := by
      funext a
      by_cases h : a = p
      · rw [h, upd_same]; exact hp.symm
      · rw [upd_ne h]
    rw [e] at q
    exact q
section
variable {C : Addr} {ex : Nat → List (Str × V)} {J : Hp → Prop}
theorem mul_ok {s : CS Str} (h : Ok s) (k : Int) : CMul (s.wide / 2048) k := .inl (by
  have := h.lo; have := h.hi
  constructor <;> omega)
theorem chNew_eq (c : Int) (b : Bool) : (if b2i b = 0 then c + (2048 - c) / 32 else c - c / 32) = chNew c b := by cases b <;> rfl
/-- behind narrowed and learn -/
theorem cos_bit {p d dx : Addr} {H : Hp} {x : Str} {b : Bool} {s : CS Str} {kvs : List (Key × V)} (hd : H d = some (.dK kvs)) (hp : ∃ dx fs, H p = some (.ins C dx fs)) (hc : ChD kvs s.ch) (hl : kvs.length ≤ s.m) (hok : Ok (step (some x) b s)) :
    CoS C ex p d (upd (upd H p (.ins C dx (cf (step (some x) b s).low (step (some x) b s).wide (256 ^ ((step (some x) b s).n + 4)) (step (some x) b s).n d (ex (step (some x) b s).n)))) d (.dK (putK kvs (Sum.inr x) (.int (chNew (s.ch x) b))))) (step (some x) b s) := by
  obtain ⟨dx0, fs0, hp⟩ := hp
  have npd : p ≠ d := ne_of hp hd (by intro z; cases z)
  refine ⟨⟨⟨dx, by rw [upd_ne npd, upd_same]⟩, hok⟩, _, upd_same, fun y => ?_, ?_⟩
  · rw [valV_put, step_ch]
    show _ = V.int (if y = x then chNew (s.ch x) b else s.ch y)
    by_cases e : y = x
    · rw [if_pos (by rw [e]), if_pos e]; rfl
    · rw [if_neg (fun z => e (Sum.inr.inj z)), if_neg e]
      exact hc y
  · have := length_putK kvs (Sum.inr x) (V.int (chNew (s.ch x) b))
    rw [step_m]; omega
theorem cos_even {p d dx : Addr} {H : Hp} {b : Bool} {s : CS Str} (h : CoS C ex p d H s) :
    CoS C ex p d (upd H p (.ins C dx (cf (step none b s).low (step none b s).wide (256 ^ ((step none b s).n + 4)) (step none b s).n d (ex (step none b s).n)))) (step none b s) := by
  obtain ⟨⟨⟨dx0, hp⟩, hok⟩, kvs, hd, hc, hl⟩ := h
  have npd : p ≠ d := ne_of hp hd (by intro z; cases z)
  exact ⟨⟨⟨dx, upd_same⟩, hok.step none b⟩, kvs, by rw [upd_ne npd.symm]; exact hd, by rw [step_ch]; exact hc, by rw [step_m]; omega⟩
def spWBit (C : Addr) (ex : Nat → List (Str × V)) : Sp := fun vs H Q _ => ∃ (p d : Addr) (x : Str) (b : Bool) (s : CS Str), vs = [.ref p, .str x, .int (b2i b)] ∧ CoS C ex p d H s ∧ s.m ≤ 9000 ∧ ∀ H', CoS C ex p d H' (step (some x) b s) → But p d H H' → Q .non H'
theorem sc_wbit : FnScope ["self", "name", "value", "chance"] ["self", "name", "value"] (defScope sm_Writer_bit) := ⟨rfl, rfl, rfl, by decide +kernel, rfl, by decide +kernel, by decide +kernel⟩
theorem b2i_ok (b : Bool) : 0 ≤ b2i b ∧ b2i b ≤ 1 := by cases b <;> decide
theorem d_wbit (N : Ct mg) (c : Cc K C) (D : Dm K C "bit" "Writer.bit" sm_Writer_bit) (GS : Dk P w K mg base CX0 2 "need_sign" ["value"] spNeedSign)
    (GC : Mk4 P w K mg base 1 C "chance_of" ["self", "name"] (spChance C)) (GN : Mk4 P w K mg base 2 C "narrowed" ["self", "part", "value"] (spNarrow C ex0 J0)) (GL : Mk4 P w K mg base 1 C "learn" ["self", "name", "chance", "value"] (spLearn C)) :
    Mk4 P w K mg base 3 C "bit" ["self", "name", "value"] (spWBit C ex0) := by
  refine Mk4.mk' c.cl D sc_wbit (fun _ _ _ _ _ _ us hl => match us, hl with | [_, _, _], _ => rfl) (fun vs H Q E h => ?_) (fun cdv A outer s H vs Q E hr h => ?_)
  · obtain ⟨p, d, x, b, s, rfl, _⟩ := h
    rfl
  · obtain ⟨p, d, x, b, s1, rfl, S, hm, q⟩ := h
    obtain ⟨⟨⟨dx, hp⟩, hok⟩, kvs, hd, hc, hl⟩ := id S
    have npd : p ≠ d := ne_of hp hd (by intro z; cases z)
    refine ⟨_, pss_cons (ps_expr (pcall GS hr (by decide) rfl (pa_cons (pv 2) pa_nil))) (pss_cons (ps_set (i := 3) sc_wbit.nd rfl (.inl rfl) (pmeth GC hr (by decide) (pv 0) (pa_cons (pv 1) pa_nil)))
      (pss_cons (ps_expr (pmeth GN hr (by decide) (pv 0) (pa_cons (pe_op op_mul (pe_op op_fdiv (pe_fld (pv 0) rfl) (pgI N.whole)) (pv 3)) (pa_cons (pv 2) pa_nil))))
        (pss_one (ps_expr (pmeth GL hr (by decide) (pv 0) (pa_cons (pv 1) (pa_cons (pv 3) (pa_cons (pv 2) pa_nil)))))))), ?_⟩
    refine ⟨_, rfl, b2i b, rfl, b2i_ok b, ?_⟩
    refine ⟨_, rfl, p, dx, _, rfl, hp, cf_meth ex0_no, _, rfl, p, d, dx, x, _, _, _, _, _, kvs, s1.ch, rfl, hp, hd, hc, ?_⟩
    refine ⟨_, rfl, p, dx, _, rfl, hp, cf_meth ex0_no, _, rfl, p, C, dx, _, _, rfl, hp, c.cl, c.breadth, cf_breadth, _, _, rfl, rfl, ⟨by decide, by decide⟩, _, rfl, _, _, rfl, rfl, mul_ok hok _, _, rfl,
      p, d, some x, b, s1, rfl, S.toCoO, trivial, fun dx' S' => ?_⟩
    have ch := hok.ch x
    refine ⟨_, rfl, p, dx', _, rfl, upd_same, cf_meth ex0_no, _, rfl, _, rfl, _, rfl, p, d, dx', x, _, _, _, _, s1.ch x, b2i b, _, kvs, rfl, upd_same, by rw [upd_ne npd.symm]; exact hd, by omega, by omega, by omega, ?_⟩
    rw [chNew_eq]
    exact q _ (cos_bit hd ⟨_, _, hp⟩ hc hl S'.ok) (But.upd2 (But.upd1 (But.refl H)))
def spWEven (C : Addr) (ex : Nat → List (Str × V)) : Sp := fun vs H Q _ => ∃ (p d : Addr) (b : Bool) (s : CS Str), vs = [.ref p, .int (b2i b)] ∧ CoS C ex p d H s ∧ ∀ H', CoS C ex p d H' (step none b s) → But p d H H' → Q .non H'
theorem sc_weven : FnScope ["self", "value"] ["self", "value"] (defScope sm_Writer_even) := ⟨rfl, rfl, rfl, by decide +kernel, rfl, by decide +kernel, by decide +kernel⟩
theorem d_weven (N : Ct mg) (c : Cc K C) (D : Dm K C "even" "Writer.even" sm_Writer_even) (GS : Dk P w K mg base CX0 2 "need_sign" ["value"] spNeedSign) (GN : Mk4 P w K mg base 2 C "narrowed" ["self", "part", "value"] (spNarrow C ex0 J0)) :
    Mk4 P w K mg base 3 C "even" ["self", "value"] (spWEven C ex0) := by
  refine Mk4.mk' c.cl D sc_weven (fun _ _ _ _ _ _ us hl => match us, hl with | [_, _], _ => rfl) (fun vs H Q E h => ?_) (fun cdv A outer s H vs Q E hr h => ?_)
  · obtain ⟨p, d, b, s, rfl, _⟩ := h
    rfl
  · obtain ⟨p, d, b, s1, rfl, S, q⟩ := h
    obtain ⟨⟨⟨dx, hp⟩, hok⟩, kvs, hd, hc, hl⟩ := id S
    refine ⟨_, pss_cons (ps_expr (pcall GS hr (by decide) rfl (pa_cons (pv 1) pa_nil))) (pss_one (ps_expr (pmeth GN hr (by decide) (pv 0) (pa_cons (pe_op op_mul (pe_op op_fdiv (pe_fld (pv 0) rfl) (pgI N.whole)) (pgI N.even)) (pa_cons (pv 1) pa_nil))))), ?_⟩
    refine ⟨_, rfl, b2i b, rfl, b2i_ok b, ?_⟩
    refine ⟨_, rfl, p, dx, _, rfl, hp, cf_meth ex0_no, _, rfl, p, C, dx, _, _, rfl, hp, c.cl, c.breadth, cf_breadth, _, _, rfl, rfl, ⟨by decide, by decide⟩, _, _, rfl, rfl, mul_ok hok _, _, rfl,
      p, d, none, b, s1, rfl, S.toCoO, trivial, fun dx' S' => ?_⟩
    exact q _ (cos_even S) (But.upd1 (But.refl H))
end
end K4
namespace K4
open PySem PySem.Spec PyProof.Rows L2
variable {P : Program} {w : World} {K : PySem.W.Frag} {mg : Str → Option Value} {base : Heap}
/-! ### names -/
def tx (k : Nat) : Str := Str.ofString (toString ((k : Nat) : Int))
def nmOf (x : Str) (k : Nat) : Str := x ++ (" " : Str) ++ tx k
def szOf (i : Nat) : Str := ("size " : Str) ++ tx i
def MM : Nms Str := { kind := nmOf "kind", x := nmOf "x", y := nmOf "y", size := fun i => nmOf (szOf i), rest := "rest", which := "which" }
theorem tx_len {k : Nat} (h : k ≤ 9999) : (tx k).length ≤ 6 := by
  have h5 : (10 : Nat) ^ 5 = 100000 := by decide
  have e := int_text_length_le10 (a := (k : Int)) (k := 5) (by decide) (by omega)
  unfold tx
  rw [PySem.ofString_length]
  exact e
theorem line_ge {n : Nat} (h : n ≤ 16777216) : n ≤ sizeLine := by rw [sizeLine_eq]; exact h
theorem log_small {k : Nat} (h : k ≤ 9999) : ((k : Int)).natAbs.log2 < 1920 := by
  have e : (k : Int).natAbs = k := Int.natAbs_natCast k
  rw [e]
  by_cases hk : k = 0
  · rw [hk]; decide
  · have h14 : (2 : Nat) ^ 14 = 16384 := by decide
    exact Nat.lt_of_lt_of_le ((Nat.log2_lt hk).mpr (show k < 2 ^ 14 by omega)) (by decide)
section
variable {X : Cx}
/-- f'{x} {k}', x and k in slots -/
def tNmV (i j : Nat) : TE := fun σ H Q => ∃ (x : Str) (z : Int) (k : Nat), σ[i]? = some (some (.str x)) ∧ σ[j]? = some (some (.int z)) ∧ z = (k : Int) ∧ x.length ≤ 1000 ∧ k ≤ 9999 ∧ Q (.str (nmOf x k)) H
theorem pe_nm {i j k3 : Nat} {e1 e2 : Expr} {p2 p3 p5 pos : Pos} (h1 : PE X e1 (tVar i)) (h2 : PE X e2 (tVar j)) :
    PE X (.JoinedStr [.FormattedValue e1 (-1) none p2, .Constant (.str (" " : Str)) k3 p3, .FormattedValue e2 (-1) none p5] pos) (tNmV i j) := by
  refine ⟨fun pins s σ H Q I h => (pe_joined (.cons (pe_fmt h1) (.cons pe_str (.cons (pe_fmt h2) .nil)))).run pins s σ H Q I ?_⟩
  obtain ⟨x, z, k, e1, e2, rfl, hx, hk, q⟩ := h
  have hk2 := tx_len hk
  have l1 : (" " : Str).length = 1 := by decide +kernel
  refine ⟨_, e1, .inl ⟨x, rfl, line_ge (by omega), x, rfl, ?_, (" " : Str), rfl, ?_, _, e2, .inr ⟨_, rfl, log_small hk, _, rfl, ?_, ?_⟩⟩⟩
  · rw [Str.empty_append]; exact line_ge (by omega)
  · rw [Str.empty_append, Str.length_append]
    exact line_ge (by omega)
  · rw [Str.empty_append, Str.length_append, Str.length_append]
    show x.length + (" " : Str).length + (tx k).length ≤ sizeLine
    exact line_ge (by omega)
  · show Q (.str (Str.empty ++ x ++ (" " : Str) ++ tx k)) H
    rw [Str.empty_append]
    exact q
/-- f'size {k}' -/
def tSzV (j : Nat) : TE := fun σ H Q => ∃ (z : Int) (k : Nat), σ[j]? = some (some (.int z)) ∧ z = (k : Int) ∧ k ≤ 9999 ∧ Q (.str (szOf k)) H
theorem pe_sz {j k3 : Nat} {e2 : Expr} {p3 p5 pos : Pos} (h2 : PE X e2 (tVar j)) :
    PE X (.JoinedStr [.Constant (.str ("size " : Str)) k3 p3, .FormattedValue e2 (-1) none p5] pos) (tSzV j) := by
  refine ⟨fun pins s σ H Q I h => (pe_joined (.cons pe_str (.cons (pe_fmt h2) .nil))).run pins s σ H Q I ?_⟩
  obtain ⟨z, k, e2, rfl, hk, q⟩ := h
  have hk2 := tx_len hk
  have l1 : ("size " : Str).length = 5 := by decide +kernel
  refine ⟨("size " : Str), rfl, ?_, _, e2, .inr ⟨_, rfl, log_small hk, _, rfl, ?_, ?_⟩⟩
  · rw [Str.empty_append]; exact line_ge (by omega)
  · rw [Str.empty_append, Str.length_append]
    show ("size " : Str).length + (tx k).length ≤ sizeLine
    exact line_ge (by omega)
  · show Q (.str (Str.empty ++ ("size " : Str) ++ tx k)) H
    rw [Str.empty_append]
    exact q
theorem sz_len {k : Nat} (h : k ≤ 9999) : (szOf k).length ≤ 1000 := by
  have hk2 := tx_len h
  have l1 : ("size " : Str).length = 5 := by decide +kernel
  unfold szOf
  rw [Str.length_append]
  omega
end
/-! ### Writer.number -/
def upsE (nm : Nat → Str) (i : Nat) : Path Str := (List.range i).map fun j => (some (nm j), true)
theorem upE_eq (nm : Nat → Str) : ∀ (d k j : Nat), k ≤ j → j ≤ k + d → upE nm d k j = ((List.range' k (j - k)).map fun i => (some (nm i), true)) ++ (if j < k + d then [(some (nm j), false)] else [])
  | 0, k, j, h1, h2 => by
    have : j = k := by omega
    subst this
    simp [upE]
  | d + 1, k, j, h1, h2 => by
    show (if k < j then (some (nm k), true) :: upE nm d (k + 1) j else [(some (nm k), false)]) = _
    by_cases c : k < j
    · rw [if_pos c, upE_eq nm d (k + 1) j c (by omega), show j - k = (j - (k + 1)) + 1 from by omega, List.range'_succ, show k + (d + 1) = k + 1 + d from by omega]
      rfl
    · have : j = k := by omega
      subst this
      rw [if_neg c, if_pos (by omega), Nat.sub_self]
      rfl
theorem numE_eq (nm : Nat → Str) {most n : Int} (h0 : 0 ≤ n) (h1 : n ≤ most) : numE nm most n = upsE nm (lg (n + 1)) ++ ((if lg (n + 1) < lg (most + 1) then [(some (nm (lg (n + 1))), false)] else []) ++ evE (n + 1) (lg (n + 1))) := by
  unfold numE
  rw [upE_eq nm _ 0 _ (Nat.zero_le _) (by rw [Nat.zero_add]; exact lg_mono (by omega) (by omega)), Nat.zero_add, Nat.sub_zero, List.append_assoc]
  unfold upsE
  rw [List.range_eq_range']
theorem steps_snoc (s : CS Str) (π : Path Str) (o : Option Str) (b : Bool) : steps s (π ++ [(o, b)]) = step o b (steps s π) := by rw [steps_append]; rfl
theorem upsE_succ (nm : Nat → Str) (i : Nat) : upsE nm (i + 1) = upsE nm i ++ [(some (nm i), true)] := by
  unfold upsE; rw [List.range_succ, List.map_append]; rfl
theorem lowF_len (r : Int) : ∀ m, (lowF r m).length = m
  | 0 => rfl
  | m + 1 => congrArg Nat.succ (lowF_len r m)
theorem evE_take (r : Int) (m i : Nat) (b : Bool) (h : (lowF r m)[i]? = some b) : (evE r m : Path Str).take (i + 1) = (evE r m).take i ++ [(none, b)] := by
  unfold evE
  rw [← List.map_take, ← List.map_take, List.take_succ, h, List.map_append]
  rfl
theorem lg_le {v : Int} (h : v ≤ 8191) : lg v ≤ 12 := by
  by_cases c : 1 ≤ v
  · exact Nat.le_trans (lg_mono c h) (by decide)
  · rw [lg_small (by omega)]; decide
section
variable {C : Addr}
def spWNum (C : Addr) (ex : Nat → List (Str × V)) : Sp := fun vs H Q _ => ∃ (p d : Addr) (x : Str) (n most : Int) (s : CS Str), vs = [.ref p, .str x, .int n, .int most] ∧ x.length ≤ 1000 ∧ 0 ≤ n ∧ n ≤ most ∧ most ≤ 8190 ∧ CoS C ex p d H s ∧ s.m ≤ 8000 ∧
  ∀ H', CoS C ex p d H' (steps s (numE (nmOf x) most n)) → But p d H H' → Q .non H'
theorem sc_wnum : FnScope ["self", "name", "n", "most", "many", "at", "sign"] ["self", "name", "n", "most"] (defScope sm_Writer_number) := ⟨rfl, rfl, rfl, by decide +kernel, rfl, by decide +kernel, by decide +kernel⟩
theorem d_wnum (B : Bt mg) (N : Ct mg) (c : Cc K C) (D : Dm K C "number" "Writer.number" sm_Writer_number) (GW : Dk P w K mg base CX0 1 "is_whole" ["thing", "least", "most"] spWhole) (GS : Dk P w K mg base CX0 1 "signs_in" ["number"] spLg)
    (GL : Dk P w K mg base CX0 1 "lower_signs" ["number", "many"] spLower) (GB : Mk4 P w K mg base 3 C "bit" ["self", "name", "value"] (spWBit C ex0)) (GE : Mk4 P w K mg base 3 C "even" ["self", "value"] (spWEven C ex0)) :
    Mk4 P w K mg base 4 C "number" ["self", "name", "n", "most"] (spWNum C ex0) := by
  refine Mk4.mk' c.cl D sc_wnum (fun _ _ _ _ _ _ us hl => match us, hl with | [_, _, _, _], _ => rfl) (fun vs H Q E h => ?_) (fun cdv A outer s H vs Q E hr h => ?_)
  · obtain ⟨p, d, x, n, most, s, rfl, _⟩ := h
    rfl
  · obtain ⟨p, d, x, n, most, s1, rfl, hx, hn0, hn1, hmo, S, hm, q⟩ := h
    have hk : lg (n + 1) ≤ 12 := lg_le (by omega)
    refine ⟨_, pss_cons (ps_if (PW.pt (pw_or (pt_not (pt_val (pcall GW hr (by decide) rfl (pa_cons (pv 3) (pa_cons pe_int (pa_cons (pgI N.mostNumber) pa_nil)))))) (pw_or1 (pt_not (pt_val (pcall GW hr (by decide) rfl (pa_cons (pv 2) (pa_cons pe_int (pa_cons (pv 3) pa_nil))))))))) pss_never pss_nil)
      (pss_cons (ps_set (i := 4) sc_wnum.nd rfl (.inl rfl) (pcall GS hr (by decide) rfl (pa_cons (pe_op op_add (pv 2) pe_int) pa_nil)))
      (pss_cons (ps_for PassesOwn.never rfl (pi_range1 rfl B.range (pa_cons (pv 4) pa_nil)) (pg_name (i := 5) sc_wnum.nd rfl (.inl rfl))
        (pss_one (ps_expr (pmeth GB hr (by decide) (pv 0) (pa_cons (pe_nm (pv 1) (pv 5)) (pa_cons pe_int pa_nil))))))
      (pss_cons (ps_if (pt_cmpR op_lt (pv 4) (pcall GS hr (by decide) rfl (pa_cons (pe_op op_add (pv 3) pe_int) pa_nil)) (nomark _))
        (pss_one (ps_expr (pmeth GB hr (by decide) (pv 0) (pa_cons (pe_nm (pv 1) (pv 4)) (pa_cons pe_int pa_nil))))) pss_nil)
      (pss_one (ps_for PassesOwn.never rfl (pi_list (pcall GL hr (by decide) rfl (pa_cons (pe_op op_add (pv 2) pe_int) (pa_cons (pv 4) pa_nil)))) (pg_name (i := 6) sc_wnum.nd rfl (.inl rfl))
        (pss_one (ps_expr (pmeth GE hr (by decide) (pv 0) (pa_cons (pv 6) pa_nil))))))))), ?_⟩
    refine ⟨_, rfl, most, 0, 8190, rfl, by omega, hmo, _, rfl, iteF ?_⟩
    refine ⟨_, rfl, _, rfl, n, 0, most, rfl, hn0, hn1, _, rfl, iteF ?_⟩
    refine ⟨_, rfl, _, _, rfl, rfl, n + 1, rfl, ?_⟩
    refine ⟨_, rfl, (lg (n + 1) : Int), rfl, by omega, by omega, for_range (lo := 0) (n := ((lg (n + 1) : Nat) : Int).toNat) (fun i σ H' => ∃ z : Option V, σ = [some (.ref p), some (.str x), some (.int n), some (.int most), some (.int (lg (n + 1) : Nat)), z, none] ∧ CoS C ex0 p d H' (steps s1 (upsE (nmOf x) i)) ∧ But p d H H')
      ⟨none, rfl, S, But.refl H⟩ ?_ ?_⟩
    · rintro i σ H' hi ⟨z, rfl, S', b'⟩
      have hi' : i < lg (n + 1) := by omega
      obtain ⟨dx, hp⟩ := S'.ob
      refine ⟨_, rfl, p, dx, _, rfl, hp, cf_meth ex0_no, x, _, i, rfl, rfl, by omega, hx, by omega, p, d, nmOf x i, true, _, rfl, S', ?_, fun H'' S'' b'' => ?_⟩
      · rw [steps_m]; unfold upsE; rw [List.length_map, List.length_range]; omega
      · refine ⟨_, rfl, ?_, b'.trans b''⟩
        rw [upsE_succ, steps_snoc]
        exact S''
    · rintro σ H' ⟨z, rfl, S', b'⟩
      have en : ((lg (n + 1) : Nat) : Int).toNat = lg (n + 1) := Int.toNat_natCast _
      rw [en] at S'
      refine ⟨_, rfl, _, rfl, _, _, rfl, rfl, most + 1, rfl, _, _, rfl, rfl, _, rfl, ?_⟩
      -- behind the if
      have fin : ∀ H1 : Hp, CoS C ex0 p d H1 (steps s1 (upsE (nmOf x) (lg (n + 1)) ++ (if lg (n + 1) < lg (most + 1) then [(some (nmOf x (lg (n + 1))), false)] else []))) → But p d H H1 →
          tFor (iList K (tCall spLower [] E0 (tCons (tOp (rI0 fun i j => .int (i + j)) (tVar 2) (tC (.int 1))) (tCons (tVar 4) tNil)))) (gName 6) (tDrop (tMeth C "even" (spWEven C ex0) [] E0 (tVar 0) (tCons (tVar 6) tNil)))
            { nx := fun _ H' => Q .non H', rt := Q } [some (.ref p), some (.str x), some (.int n), some (.int most), some (.int (lg (n + 1) : Nat)), z, none] H1 := by
        intro H1 S1 b1
        refine ⟨_, rfl, _, _, rfl, rfl, _, rfl, n + 1, lg (n + 1), rfl, by omega, fun l H2 hl s2 hL => ?_⟩
        obtain ⟨⟨⟨dx1, hp1⟩, _⟩, kvs1, hd1, _⟩ := id S1
        have nlp : l ≠ p := fun e => by rw [e, hp1] at hl; cases hl
        have nld : l ≠ d := fun e => by rw [e, hd1] at hl; cases hl
        have S2 : CoS C ex0 p d H2 (steps s1 (upsE (nmOf x) (lg (n + 1)) ++ (if lg (n + 1) < lg (most + 1) then [(some (nmOf x (lg (n + 1))), false)] else []))) := by
          obtain ⟨⟨⟨dxa, ha⟩, hb⟩, kvsa, hc, hd⟩ := S1
          exact ⟨⟨⟨dxa, s2 _ _ ha⟩, hb⟩, kvsa, s2 _ _ hc, hd⟩
        refine ⟨l, rfl, ⟨_, SqL.of hL⟩, for_list (K := K) (a := l) (xs := (lowI (n + 1) (lg (n + 1))).map V.int) (fun i σ H' => ∃ z2 : Option V, σ = [some (.ref p), some (.str x), some (.int n), some (.int most), some (.int (lg (n + 1) : Nat)), z, z2] ∧
            CoS C ex0 p d H' (steps s1 (upsE (nmOf x) (lg (n + 1)) ++ (if lg (n + 1) < lg (most + 1) then [(some (nmOf x (lg (n + 1))), false)] else []) ++ (evE (n + 1) (lg (n + 1))).take i)) ∧ But p d H H' ∧ H' l = some (.lst ((lowI (n + 1) (lg (n + 1))).map V.int)))
          ⟨none, rfl, by rw [List.take_zero, List.append_nil]; exact S2, b1.trans (But.of_same s2), hL⟩ (fun i σ H' _ ⟨_, _, _, _, h⟩ => SqL.of h) ?_ ?_⟩
        · rintro i y σ H' hi ⟨z2, rfl, S', b', hL'⟩
          obtain ⟨b, hb, rfl⟩ : ∃ b, (lowF (n + 1) (lg (n + 1)))[i]? = some b ∧ y = V.int (b2i b) := by
            unfold lowI at hi
            rw [List.map_map, List.getElem?_map] at hi
            cases e : (lowF (n + 1) (lg (n + 1)))[i]? with
            | none => rw [e] at hi; cases hi
            | some b => rw [e] at hi; exact ⟨b, rfl, (Option.some.inj hi).symm⟩
          obtain ⟨dx, hp⟩ := S'.ob
          refine ⟨_, rfl, p, dx, _, rfl, hp, cf_meth ex0_no, _, rfl, p, d, b, _, rfl, S', fun H'' S'' b'' => ?_⟩
          refine ⟨_, rfl, ?_, b'.trans b'', b'' _ _ hL' nlp nld⟩
          rw [evE_take _ _ _ _ hb, ← List.append_assoc, steps_snoc]
          exact S''
        · rintro σ H' ⟨z2, rfl, S', b', _⟩
          refine q H' ?_ b'
          rw [numE_eq _ hn0 hn1, ← List.append_assoc]
          rw [List.take_of_length_le (by unfold evE lowI; rw [List.length_map, List.length_map, List.length_map]; exact Nat.le_refl _)] at S'
          exact S'
      refine ite2 (fun cc => ?_) (fun cc => ?_)
      · have c1 : lg (n + 1) < lg (most + 1) := by have := of_decide_eq_true cc; omega
        obtain ⟨dx, hp⟩ := S'.ob
        refine ⟨_, rfl, p, dx, _, rfl, hp, cf_meth ex0_no, x, _, lg (n + 1), rfl, rfl, rfl, hx, by omega, p, d, nmOf x (lg (n + 1)), false, _, rfl, S', ?_, fun H'' S'' b'' => fin H'' ?_ (b'.trans b'')⟩
        · rw [steps_m]; unfold upsE; rw [List.length_map, List.length_range]; omega
        · rw [if_pos c1, steps_snoc]; exact S''
      · have c1 : ¬ lg (n + 1) < lg (most + 1) := fun z => cc (decide_eq_true (by omega))
        refine fin H' ?_ b'
        rw [if_neg c1, List.append_nil]; exact S'
end
end K4
namespace K4
open PySem PySem.Spec PyProof.Rows L2
variable {P : Program} {w : World} {K : PySem.W.Frag} {mg : Str → Option Value} {base : Heap}
/-! ### Writer.letters -/
theorem pow_bits {j a : Nat} (h : 8 * j < a) : ((256 : Int) ^ j).natAbs < 2 ^ a := by
  rw [Int.natAbs_pow, show (256 : Int).natAbs = 2 ^ 8 from by decide, ← Nat.pow_mul]
  exact Nat.pow_lt_pow_right (by decide) h
theorem pow_mono {i j : Nat} (h : i ≤ j) : (256 : Int) ^ i ≤ 256 ^ j := by
  have e : j = i + (j - i) := by omega
  rw [e, Int.pow_add]
  have h1 := pow_pos i
  have h2 := pow_pos (j - i)
  have : (256 : Int) ^ i * 1 ≤ 256 ^ i * 256 ^ (j - i) := Int.mul_le_mul_of_nonneg_left (by omega) (by omega)
  omega
def spWLetters (C : Addr) (ex : Nat → List (Str × V)) : Sp := fun vs H Q _ => ∃ (p d : Addr) (s : CS Str), vs = [.ref p] ∧ CoO C ex p d H s ∧ s.n ≤ 1100 ∧ ∀ t H', H t = none → Same H H' → H' t = some (.tup ((ownOf s).map V.int)) → Q (.ref t) H'
theorem sc_wletters : FnScope ["self", "many", "unit"] ["self"] (defScope sm_Writer_letters) := ⟨rfl, rfl, rfl, by decide +kernel, rfl, by decide +kernel, by decide +kernel⟩
theorem d_wletters {C : Addr} {ex : Nat → List (Str × V)} (c : Cc K C) (D : Dm K C "letters" "Writer.letters" sm_Writer_letters) (G : Dk P w K mg base CX0 1 "letters_in" ["number", "many"] spLetters) : Mk4 P w K mg base 2 C "letters" ["self"] (spWLetters C ex) := by
  refine Mk4.mk' c.cl D sc_wletters (fun _ _ _ _ _ _ us hl => match us, hl with | [_], _ => rfl) (fun vs H Q E h => ?_) (fun cdv A outer s H vs Q E hr h => ?_)
  · obtain ⟨p, d, s, rfl, _⟩ := h
    rfl
  · obtain ⟨p, d, s1, rfl, ⟨⟨dx, hp⟩, hok⟩, hn, q⟩ := h
    have h0 := hok.l0
    have htop := hok.top
    have hlo := hok.lo
    have ub : ∀ m, unitOf s1 m ≤ 256 ^ (s1.n + 4) := fun m => pow_mono (by omega)
    have un : ∀ m, (unitOf s1 m).natAbs < 2 ^ 8900 := fun m => pow_bits (by omega)
    have div : ∀ m, CDivW (s1.low + unitOf s1 m - 1) (unitOf s1 m) := fun m => wide_div (unit_pos s1 m) (un m) (by decide) (by decide)
    have mul : ∀ m, CMulW ((s1.low + unitOf s1 m - 1) / unitOf s1 m) (unitOf s1 m) := fun m => by
      have u0 := unit_pos s1 m
      have u1 := ub m
      have b : ((256 : Int) ^ (s1.n + 4) * 256).natAbs < 2 ^ 9000 := by
        have e : (256 : Int) ^ (s1.n + 4) * 256 = 256 ^ (s1.n + 5) := (Int.pow_succ ..).symm
        rw [e]; exact pow_bits (by omega)
      refine wide_mul (a := 9000) (b := 8900) (wide_le (Int.ediv_nonneg (by omega) (by omega)) ?_ b) (un m) (by decide) (by decide) (by decide)
      have := Int.ediv_le_self (unitOf s1 m) (show 0 ≤ s1.low + unitOf s1 m - 1 by omega)
      omega
    refine ⟨_, pss_cons (ps_par (i := 1) (j := 2) (by rfl) sc_wletters.nd rfl rfl (by decide) rfl rfl (pa_cons pe_int (pa_cons (pe_fld (pv 0) rfl) pa_nil)) (by rfl))
      (pss_cons (ps_while PassesOwn.never (pt_cmpR op_ge (pe_op op_mulW (pe_op op_fdivW (pe_op op_sub (pe_op op_add (pe_fld (pv 0) rfl) (pv 2)) pe_int) (pv 2)) (pv 2)) (pe_op op_add (pe_fld (pv 0) rfl) (pe_fld (pv 0) rfl)) (nomark _))
        (pss_cons (ps_aug (i := 1) sc_wletters.nd rfl (.inl rfl) pe_int ip_add) (pss_one (ps_set (i := 2) sc_wletters.nd rfl (.inl rfl) (pe_op op_fdiv (pv 2) pe_int)))))
      (pss_one (ps_ret (pcall G hr (by decide) rfl (pa_cons (pe_op op_fdivW (pe_op op_sub (pe_op op_add (pe_fld (pv 0) rfl) (pv 2)) pe_int) (pv 2)) (pa_cons (pv 1) pa_nil)))))), ?_⟩
    refine ⟨_, rfl, p, C, dx, _, _, rfl, hp, c.cl, c.room, cf_room, _, _, rfl, ?_⟩
    refine ⟨fun m σ H' => ∃ k : Nat, σ = [some (.ref p), some (.int k), some (.int (unitOf s1 k))] ∧ H' = H ∧ k ≤ s1.n + 4 ∧ m = s1.n + 4 - k ∧ ∀ j, j < k → fits s1 j = false, ⟨_, 0, rfl, rfl, Nat.zero_le _, rfl, fun j hj => absurd hj (Nat.not_lt_zero _)⟩, ?_⟩
    rintro m σ H' ⟨k, rfl, rfl, hk, rfl, hf⟩
    refine ⟨_, rfl, p, C, dx, _, _, rfl, hp, c.cl, c.low, cf_low, _, rfl, _, _, rfl, rfl, _, _, rfl, rfl, _, rfl, _, _, rfl, rfl, div k, _, rfl, _, _, rfl, rfl, mul k, _, rfl, p, C, dx, _, _, rfl, hp, c.cl, c.low, cf_low,
      _, rfl, p, C, dx, _, _, rfl, hp, c.cl, c.breadth, cf_breadth, _, _, rfl, rfl, _, _, rfl, rfl, _, rfl, ite2 (fun cc => ?_) (fun cc => ?_)⟩
    · have c1 : s1.low + s1.wide ≤ cdiv s1.low (unitOf s1 k) * unitOf s1 k := of_decide_eq_true cc
      have nf : fits s1 k = false := decide_eq_false (by omega)
      have hlt : k < s1.n + 4 := by
        rcases Nat.lt_or_eq_of_le hk with z | z
        · exact z
        · rw [z, fits_last hok] at nf; cases nf
      refine ⟨fun σ' H'' => σ' = [some (.ref p), some (.int ((k + 1 : Nat) : Int)), some (.int (unitOf s1 (k + 1)))] ∧ H'' = H', fun σ' H'' e => ⟨s1.n + 4 - (k + 1), by omega, k + 1, e.1, e.2, hlt, rfl, fun j hj => ?_⟩, ?_⟩
      · rcases Nat.lt_or_eq_of_le (Nat.lt_succ_iff.mp hj) with z | z
        · exact hf j z
        · rw [z]; exact nf
      · refine ⟨_, rfl, _, _, rfl, rfl, _, rfl, _, _, rfl, rfl, ⟨by decide, by decide⟩, ?_, rfl⟩
        have e : unitOf s1 k / 256 = unitOf s1 (k + 1) := by
          unfold unitOf
          rw [show s1.n + 4 - k = (s1.n + 4 - (k + 1)) + 1 from by omega, Int.pow_succ]
          exact Int.mul_ediv_cancel _ (by decide)
        rw [← e]
        rfl
    · have c1 : ¬ s1.low + s1.wide ≤ cdiv s1.low (unitOf s1 k) * unitOf s1 k := fun z => cc (decide_eq_true z)
      have ff : fits s1 k = true := decide_eq_true (by omega)
      obtain ⟨m1, m2, m3⟩ := many_spec hok
      have ek : k = many s1 := by
        rcases Nat.lt_trichotomy k (many s1) with z | z | z
        · rw [m3 k z] at ff; cases ff
        · exact z
        · rw [hf _ z] at m1; cases m1
      refine ⟨_, rfl, p, C, dx, _, _, rfl, hp, c.cl, c.low, cf_low, _, rfl, _, _, rfl, rfl, _, _, rfl, rfl, _, rfl, _, _, rfl, rfl, div k, _, rfl, _, k, rfl, by omega, fun t H'' ht s2 hT => ?_⟩
      refine q t H'' ht s2 ?_
      rw [hT]
      show some (HO.tup ((digs (cdiv s1.low (unitOf s1 k)) k).map V.int)) = _
      rw [ek]
      rfl
/-! ### Reader -/
def exR (L : List Int) (t : Addr) : Nat → List (Str × V) := fun n => [("signs", .ref t), ("code", .int (codeAt (fn L) (n + 4)))]
def JR (K : PySem.W.Frag) (L : List Int) (t : Addr) : Hp → Prop := fun H => SqT K H t (L.map V.int)
theorem exR_no {L : List Int} {t : Addr} : exNo (exR L t) := fun n m h => by
  have h1 : ¬ m = "signs" := fun e => by rw [e] at h; revert h; decide +kernel
  have h2 : ¬ m = "code" := fun e => by rw [e] at h; revert h; decide +kernel
  exact (lk_neg h1).trans (lk_neg h2)
theorem exR_len {L : List Int} {t : Addr} : ∀ n, (exR L t n).length ≤ 100 := fun _ => by show 2 ≤ 100; decide
theorem seqT_upd {H : Hp} {t p : Addr} {xs : List V} {o u : HO} (hp : H p = some o) (ho : ∀ ys, o ≠ .tup ys) (ho2 : ∀ ob v, o ≠ .frz ob v) (h : SqT K H t xs) : SqT K (upd H p u) t xs := by
  rcases h with (h | ⟨ob, h⟩) | h
  · exact .inl (.inl (by rw [upd_ne (fun e => by rw [e, hp] at h; exact ho _ (Option.some.inj h))]; exact h))
  · exact .inl (.inr ⟨ob, by rw [upd_ne (fun e => by rw [e, hp] at h; exact ho2 _ _ (Option.some.inj h))]; exact h⟩)
  · exact .inr h
theorem JR_kept {C : Addr} {L : List Int} {t : Addr} : Kept C (JR K L t) := fun H p dx dx' fs fs' hp h => seqT_upd hp (fun _ z => nomatch z) (fun _ _ z => nomatch z) h
theorem But.seqT {p d t : Addr} {H H' : Hp} {xs : List V} {C dx : Addr} {fs : List (Str × V)} {kvs : List (Key × V)} (b : But p d H H') (hp : H p = some (.ins C dx fs)) (hd : H d = some (.dK kvs)) (h : SqT K H t xs) : SqT K H' t xs := by
  rcases h with (h | ⟨ob, h⟩) | h
  · exact .inl (.inl (b _ _ h (ne_of h hp (fun z => nomatch z)) (ne_of h hd (fun z => nomatch z))))
  · exact .inl (.inr ⟨ob, b _ _ h (ne_of h hp (fun z => nomatch z)) (ne_of h hd (fun z => nomatch z))⟩)
  · exact .inr h
structure Crd (K : PySem.W.Frag) (C : Addr) : Prop extends Cc K C where
  signs : NoAttr K C "signs"
  code : NoAttr K C "code"
section
variable {C : Addr}
theorem cf_signs {l b r n : Int} {d t : Addr} {L : List Int} {k : Nat} : (cf l b r n d (exR L t k)).lookup ("signs" : Str) = some (.ref t) := (cf_no (by decide +kernel)).trans lk_pos
theorem cf_code {l b r n : Int} {d t : Addr} {L : List Int} {k : Nat} : (cf l b r n d (exR L t k)).lookup ("code" : Str) = some (.int (codeAt (fn L) (k + 4))) := (cf_no (by decide +kernel)).trans ((lk_neg (by decide +kernel)).trans lk_pos)
def spSignAt (K : PySem.W.Frag) (C : Addr) : Sp := fun vs H Q _ => ∃ (p t dx : Addr) (fs : List (Str × V)) (L : List Int) (k : Nat), vs = [.ref p, .int k] ∧ H p = some (.ins C dx fs) ∧ fs.lookup ("signs" : Str) = some (.ref t) ∧ SqT K H t (L.map V.int) ∧ Q (.int (fn L k)) H
theorem sc_sign_at : FnScope ["self", "at"] ["self", "at"] (defScope sm_Reader_sign_at) := ⟨rfl, rfl, rfl, by decide +kernel, rfl, by decide +kernel, by decide +kernel⟩
theorem d_sign_at (B : Bt mg) (c : Crd K C) (D : Dm K C "sign_at" "Reader.sign_at" sm_Reader_sign_at) : Mk4 P w K mg base 1 C "sign_at" ["self", "at"] (spSignAt K C) := by
  refine Mk4.mk' c.cl D sc_sign_at (fun _ _ _ _ _ _ us hl => match us, hl with | [_, _], _ => rfl) (fun vs H Q E h => ?_) (fun cdv A outer s H vs Q E hr h => ?_)
  · obtain ⟨p, t, dx, fs, L, k, rfl, _⟩ := h
    rfl
  · obtain ⟨p, t, dx, fs, L, k, rfl, hp, hf, hs, q⟩ := h
    refine ⟨_, pss_one (ps_ret (pe_ifExp (pt_cmpR op_lt (pv 1) (pB call_len B.len (pa_cons (pe_fld (pv 0) rfl) pa_nil)) (nomark _)) (pe_ix ix_tup (pe_fld (pv 0) rfl) (pv 1) (fun _ _ => rfl)) pe_int)), ?_⟩
    refine ⟨_, rfl, _, rfl, p, C, dx, _, _, rfl, hp, c.cl, c.signs, hf, _, _, rfl, .inr ⟨_, hs, rfl⟩, _, _, rfl, rfl, _, rfl, ite2 (fun cc => ?_) (fun cc => ?_)⟩
    · have c1 : k < L.length := by
        have := of_decide_eq_true cc
        rw [List.length_map] at this
        omega
      refine ⟨_, rfl, p, C, dx, _, _, rfl, hp, c.cl, c.signs, hf, _, rfl, t, _, _, _, rfl, rfl, hs, atI_nat (v := V.int L[k]) (by rw [List.getElem?_map, List.getElem?_eq_getElem c1]; rfl), ?_⟩
      have e : fn L k = L[k] := by unfold fn; rw [List.getD_eq_getElem?_getD, List.getElem?_eq_getElem c1]; rfl
      rw [e] at q
      exact q
    · have c1 : ¬ k < L.length := fun z => cc (decide_eq_true (by rw [List.length_map]; omega))
      have e : fn L k = 0 := by unfold fn; rw [List.getD_eq_getElem?_getD, List.getElem?_eq_none (by omega)]; rfl
      rw [e] at q
      exact q
theorem sc_rcame : FnScope ["self"] ["self"] (defScope sm_Reader_came) := ⟨rfl, rfl, rfl, by decide +kernel, rfl, by decide +kernel, by decide +kernel⟩
theorem d_rcame {L : List Int} {t : Addr} (N : Ct mg) (c : Crd K C) (D : Dm K C "came" "Reader.came" sm_Reader_came) (G : Mk4 P w K mg base 1 C "sign_at" ["self", "at"] (spSignAt K C)) : Mk4 P w K mg base 2 C "came" ["self"] (spCame C (exR L t) (JR K L t)) := by
  refine Mk4.mk' c.cl D sc_rcame (fun _ _ _ _ _ _ us hl => match us, hl with | [_], _ => rfl) (fun vs H Q E h => ?_) (fun cdv A outer s H vs Q E hr h => ?_)
  · obtain ⟨p, d, dx, l, b, r, n, rfl, _⟩ := h
    rfl
  · obtain ⟨p, d, dx, l, b, r, n, rfl, hp, hj, q⟩ := h
    refine ⟨_, pss_one (ps_fld (pv 0) (pe_op op_add (pe_op op_mul (pe_fld (pv 0) rfl) pe_int) (pmeth G hr (by decide) (pv 0) (pa_cons (pe_op op_sub (pe_op op_add (pe_fld (pv 0) rfl) (pgI N.ahead)) pe_int) pa_nil))) rfl), ?_⟩
    refine ⟨_, rfl, p, C, dx, _, _, rfl, hp, c.cl, c.code, cf_code, _, _, rfl, rfl, small_mul, _, rfl, p, dx, _, rfl, hp, cf_meth exR_no, _, rfl, p, C, dx, _, _, rfl, hp, c.cl, c.sent, cf_sent, _, _, rfl, rfl, _, _, rfl, rfl,
      p, t, dx, _, L, n + 4, ?_, hp, cf_signs, hj, _, _, rfl, rfl, _, rfl, p, C, dx, _, rfl, hp, c.cl, c.code, by rw [cf_len]; show 7 < 1000; decide, ?_⟩
    · show [V.ref p, V.int (((n + 1 : Nat) : Int) + 4 - 1)] = _
      rw [show ((n + 1 : Nat) : Int) + 4 - 1 = ((n + 4 : Nat) : Int) from by omega]
    · rw [cf_put (by decide +kernel)]
      have e : putF "code" (V.int (codeAt (fn L) (n + 4) * 256 + fn L (n + 4))) (exR L t n) = exR L t (n + 1) := by
        refine (pf_neg (by decide +kernel)).trans (congrArg _ (pf_pos.trans ?_))
        rw [show n + 1 + 4 = (n + 4) + 1 from by omega]
        rfl
      show Q V.non (upd H p (HO.ins C dx (cf l b r ((n + 1 : Nat) : Int) d (putF "code" (V.int (codeAt (fn L) (n + 4) * 256 + fn L (n + 4))) (exR L t n)))))
      rw [e]
      exact q
def spReadBy (K : PySem.W.Frag) (C : Addr) (L : List Int) (t : Addr) : Sp := fun vs H Q _ => ∃ (p d : Addr) (o : Option Str) (s : CS Str), vs = [.ref p, .int (prob o s)] ∧ CoO C (exR L t) p d H s ∧ JR K L t H ∧
  ∀ dx', CoO C (exR L t) p d (upd H p (.ins C dx' (cf (step o (rd (fn L) o s) s).low (step o (rd (fn L) o s) s).wide (256 ^ ((step o (rd (fn L) o s) s).n + 4)) (step o (rd (fn L) o s) s).n d (exR L t (step o (rd (fn L) o s) s).n)))) (step o (rd (fn L) o s) s) →
    Q (.int (b2i (rd (fn L) o s))) (upd H p (.ins C dx' (cf (step o (rd (fn L) o s) s).low (step o (rd (fn L) o s) s).wide (256 ^ ((step o (rd (fn L) o s) s).n + 4)) (step o (rd (fn L) o s) s).n d (exR L t (step o (rd (fn L) o s) s).n))))
theorem sc_read_by : FnScope ["self", "chance", "part", "value"] ["self", "chance"] (defScope sm_Reader_read_by) := ⟨rfl, rfl, rfl, by decide +kernel, rfl, by decide +kernel, by decide +kernel⟩
theorem d_read_by {L : List Int} {t : Addr} (B : Bt mg) (N : Ct mg) (c : Crd K C) (D : Dm K C "read_by" "Reader.read_by" sm_Reader_read_by) (G : Mk4 P w K mg base 3 C "narrowed" ["self", "part", "value"] (spNarrow C (exR L t) (JR K L t))) :
    Mk4 P w K mg base 4 C "read_by" ["self", "chance"] (spReadBy K C L t) := by
  refine Mk4.mk' c.cl D sc_read_by (fun _ _ _ _ _ _ us hl => match us, hl with | [_, _], _ => rfl) (fun vs H Q E h => ?_) (fun cdv A outer s H vs Q E hr h => ?_)
  · obtain ⟨p, d, o, s, rfl, _⟩ := h
    rfl
  · obtain ⟨p, d, o, s1, rfl, S, hj, q⟩ := h
    obtain ⟨⟨dx, hp⟩, hok⟩ := id S
    refine ⟨_, pss_cons (ps_set (i := 2) sc_read_by.nd rfl (.inl rfl) (pe_op op_mul (pe_op op_fdiv (pe_fld (pv 0) rfl) (pgI N.whole)) (pv 1)))
      (pss_cons (ps_set (i := 3) sc_read_by.nd rfl (.inl rfl) (pT call_int1 B.int (pa_cons (pe_cmpR op_ge (pe_fld (pv 0) rfl) (pe_op op_add (pe_fld (pv 0) rfl) (pv 2)) (nomark _)) pa_nil)))
      (pss_cons (ps_expr (pmeth G hr (by decide) (pv 0) (pa_cons (pv 2) (pa_cons (pv 3) pa_nil)))) (pss_one (ps_ret (pv 3))))), ?_⟩
    refine ⟨_, rfl, p, C, dx, _, _, rfl, hp, c.cl, c.breadth, cf_breadth, _, _, rfl, rfl, ⟨by decide, by decide⟩, _, rfl, _, _, rfl, rfl, mul_ok hok _, ?_⟩
    refine ⟨_, rfl, p, C, dx, _, _, rfl, hp, c.cl, c.code, cf_code, _, rfl, p, C, dx, _, _, rfl, hp, c.cl, c.low, cf_low, _, rfl, _, _, rfl, rfl, _, _, rfl, rfl, .inr ⟨_, rfl, ?_⟩⟩
    refine ⟨_, rfl, p, dx, _, rfl, hp, cf_meth exR_no, _, rfl, _, rfl, p, d, o, rd (fn L) o s1, s1, rfl, S, hj, fun dx' S' => ?_⟩
    exact ⟨_, rfl, q dx' S'⟩
def spRBit (K : PySem.W.Frag) (C : Addr) (L : List Int) (t : Addr) : Sp := fun vs H Q _ => ∃ (p d : Addr) (x : Str) (s : CS Str), vs = [.ref p, .str x] ∧ CoS C (exR L t) p d H s ∧ JR K L t H ∧ s.m ≤ 9000 ∧
  ∀ H', CoS C (exR L t) p d H' (step (some x) (rd (fn L) (some x) s) s) → But p d H H' → Q (.int (b2i (rd (fn L) (some x) s))) H'
theorem sc_rbit : FnScope ["self", "name", "chance", "value"] ["self", "name"] (defScope sm_Reader_bit) := ⟨rfl, rfl, rfl, by decide +kernel, rfl, by decide +kernel, by decide +kernel⟩
theorem d_rbit {L : List Int} {t : Addr} (c : Crd K C) (D : Dm K C "bit" "Reader.bit" sm_Reader_bit) (GC : Mk4 P w K mg base 1 C "chance_of" ["self", "name"] (spChance C)) (GR : Mk4 P w K mg base 4 C "read_by" ["self", "chance"] (spReadBy K C L t))
    (GL : Mk4 P w K mg base 1 C "learn" ["self", "name", "chance", "value"] (spLearn C)) : Mk4 P w K mg base 5 C "bit" ["self", "name"] (spRBit K C L t) := by
  refine Mk4.mk' c.cl D sc_rbit (fun _ _ _ _ _ _ us hl => match us, hl with | [_, _], _ => rfl) (fun vs H Q E h => ?_) (fun cdv A outer s H vs Q E hr h => ?_)
  · obtain ⟨p, d, x, s, rfl, _⟩ := h
    rfl
  · obtain ⟨p, d, x, s1, rfl, S, hj, hm, q⟩ := h
    obtain ⟨⟨⟨dx, hp⟩, hok⟩, kvs, hd, hc, hl⟩ := id S
    have npd : p ≠ d := ne_of hp hd (by intro z; cases z)
    have ch := hok.ch x
    refine ⟨_, pss_cons (ps_set (i := 2) sc_rbit.nd rfl (.inl rfl) (pmeth GC hr (by decide) (pv 0) (pa_cons (pv 1) pa_nil))) (pss_cons (ps_set (i := 3) sc_rbit.nd rfl (.inl rfl) (pmeth GR hr (by decide) (pv 0) (pa_cons (pv 2) pa_nil)))
      (pss_cons (ps_expr (pmeth GL hr (by decide) (pv 0) (pa_cons (pv 1) (pa_cons (pv 2) (pa_cons (pv 3) pa_nil))))) (pss_one (ps_ret (pv 3))))), ?_⟩
    refine ⟨_, rfl, p, dx, _, rfl, hp, cf_meth exR_no, _, rfl, p, d, dx, x, _, _, _, _, _, kvs, s1.ch, rfl, hp, hd, hc, ?_⟩
    refine ⟨_, rfl, p, dx, _, rfl, hp, cf_meth exR_no, _, rfl, p, d, some x, s1, rfl, S.toCoO, hj, fun dx' S' => ?_⟩
    refine ⟨_, rfl, p, dx', _, rfl, upd_same, cf_meth exR_no, _, rfl, _, rfl, _, rfl, p, d, dx', x, _, _, _, _, s1.ch x, b2i (rd (fn L) (some x) s1), _, kvs, rfl, upd_same, by rw [upd_ne npd.symm]; exact hd, by omega, by omega, by omega, ?_⟩
    rw [chNew_eq]
    exact ⟨_, rfl, q _ (cos_bit hd ⟨_, _, hp⟩ hc hl S'.ok) (But.upd2 (But.upd1 (But.refl H)))⟩
def spREven (K : PySem.W.Frag) (C : Addr) (L : List Int) (t : Addr) : Sp := fun vs H Q _ => ∃ (p d : Addr) (s : CS Str), vs = [.ref p] ∧ CoS C (exR L t) p d H s ∧ JR K L t H ∧
  ∀ H', CoS C (exR L t) p d H' (step none (rd (fn L) none s) s) → But p d H H' → Q (.int (b2i (rd (fn L) none s))) H'
theorem sc_reven : FnScope ["self"] ["self"] (defScope sm_Reader_even) := ⟨rfl, rfl, rfl, by decide +kernel, rfl, by decide +kernel, by decide +kernel⟩
theorem d_reven {L : List Int} {t : Addr} (N : Ct mg) (c : Crd K C) (D : Dm K C "even" "Reader.even" sm_Reader_even) (GR : Mk4 P w K mg base 4 C "read_by" ["self", "chance"] (spReadBy K C L t)) : Mk4 P w K mg base 5 C "even" ["self"] (spREven K C L t) := by
  refine Mk4.mk' c.cl D sc_reven (fun _ _ _ _ _ _ us hl => match us, hl with | [_], _ => rfl) (fun vs H Q E h => ?_) (fun cdv A outer s H vs Q E hr h => ?_)
  · obtain ⟨p, d, s, rfl, _⟩ := h
    rfl
  · obtain ⟨p, d, s1, rfl, S, hj, q⟩ := h
    obtain ⟨⟨⟨dx, hp⟩, hok⟩, kvs, hd, hc, hl⟩ := id S
    refine ⟨_, pss_one (ps_ret (pmeth GR hr (by decide) (pv 0) (pa_cons (pgI N.even) pa_nil))), ?_⟩
    exact ⟨_, rfl, p, dx, _, rfl, hp, cf_meth exR_no, p, d, none, s1, rfl, S.toCoO, hj, fun dx' S' => q _ (cos_even S) (But.upd1 (But.refl H))⟩
end
end K4
namespace K4
open PySem PySem.Spec PyProof.Rows L2
variable {P : Program} {w : World} {K : PySem.W.Frag} {mg : Str → Option Value} {base : Heap}
section
variable {C : Addr}
def spRNum (K : PySem.W.Frag) (C : Addr) (L : List Int) (t : Addr) : Sp := fun vs H Q _ => ∃ (p d : Addr) (x : Str) (most : Int) (s : CS Str), vs = [.ref p, .str x, .int most] ∧ x.length ≤ 1000 ∧ 0 ≤ most ∧ most ≤ 8190 ∧ CoS C (exR L t) p d H s ∧ JR K L t H ∧ s.m ≤ 8000 ∧
  ∀ H', CoS C (exR L t) p d H' (run (fn L) (numT (nmOf x) most) s).2 → But p d H H' → Q (.int (run (fn L) (numT (nmOf x) most) s).1.1) H'
theorem sc_rnum : FnScope ["self", "name", "most", "greatest", "many", "found", "at"] ["self", "name", "most"] (defScope sm_Reader_number) := ⟨rfl, rfl, rfl, by decide +kernel, rfl, by decide +kernel, by decide +kernel⟩
theorem CoS.ins {ex : Nat → List (Str × V)} {p d : Addr} {H : Hp} {s : CS Str} (S : CoS C ex p d H s) : ∃ dx fs, H p = some (.ins C dx fs) := by
  obtain ⟨⟨⟨dx, hp⟩, _⟩, _⟩ := S
  exact ⟨dx, _, hp⟩
theorem JR.but {ex : Nat → List (Str × V)} {L : List Int} {t p d : Addr} {H H' : Hp} {s : CS Str} (j : JR K L t H) (S : CoS C ex p d H s) (b : But p d H H') : JR K L t H' := by
  obtain ⟨⟨⟨dx, hp⟩, _⟩, kvs, hd, _⟩ := S
  exact b.seqT hp hd j
theorem run_num (f : Nat → Int) (nm : Nat → Str) (most : Int) (s : CS Str) : run f (numT nm most) s =
    ((min ((run f (evT (run f (upT nm (lg (most + 1)) 0) s).1 1) (run f (upT nm (lg (most + 1)) 0) s).2).1 - 1) most, decide (most < (run f (evT (run f (upT nm (lg (most + 1)) 0) s).1 1) (run f (upT nm (lg (most + 1)) 0) s).2).1 - 1)),
      (run f (evT (run f (upT nm (lg (most + 1)) 0) s).1 1) (run f (upT nm (lg (most + 1)) 0) s).2).2) := by
  unfold numT
  rw [run_bind, run_bind]
  rfl
theorem d_rnum {L : List Int} {t : Addr} (B : Bt mg) (N : Ct mg) (c : Crd K C) (D : Dm K C "number" "Reader.number" sm_Reader_number) (GW : Dk P w K mg base CX0 1 "is_whole" ["thing", "least", "most"] spWhole) (GS : Dk P w K mg base CX0 1 "signs_in" ["number"] spLg)
    (GB : Mk4 P w K mg base 5 C "bit" ["self", "name"] (spRBit K C L t)) (GE : Mk4 P w K mg base 5 C "even" ["self"] (spREven K C L t)) : Mk4 P w K mg base 6 C "number" ["self", "name", "most"] (spRNum K C L t) := by
  refine Mk4.mk' c.cl D sc_rnum (fun _ _ _ _ _ _ us hl => match us, hl with | [_, _, _], _ => rfl) (fun vs H Q E h => ?_) (fun cdv A outer s H vs Q E hr h => ?_)
  · obtain ⟨p, d, x, most, s, rfl, _⟩ := h
    rfl
  · obtain ⟨p, d, x, most, s1, rfl, hx, hm0, hm1, S, hj, hm, q⟩ := h
    have hg : lg (most + 1) ≤ 12 := lg_le (by omega)
    rw [run_num] at q
    generalize eg : lg (most + 1) = g at hg q
    refine ⟨_, pss_cons (ps_if (pt_not (pt_val (pcall GW hr (by decide) rfl (pa_cons (pv 2) (pa_cons pe_int (pa_cons (pgI N.mostNumber) pa_nil)))))) pss_never pss_nil)
      (pss_cons (ps_par (i := 3) (j := 4) (by rfl) sc_rnum.nd rfl rfl (by decide) rfl rfl (pa_cons (pcall GS hr (by decide) rfl (pa_cons (pe_op op_add (pv 2) pe_int) pa_nil)) (pa_cons pe_int pa_nil)) (by rfl))
      (pss_cons (ps_while PassesOwn.never (PW.pt (pw_and (pt_cmpR op_lt (pv 4) (pv 3) (nomark _)) (pw_and1 (pt_cmpR op_eq (pmeth GB hr (by decide) (pv 0) (pa_cons (pe_nm (pv 1) (pv 4)) pa_nil)) pe_int (nomark _)))))
        (pss_one (ps_aug (i := 4) sc_rnum.nd rfl (.inl rfl) pe_int ip_add)))
      (pss_cons (ps_set (i := 5) sc_rnum.nd rfl (.inl rfl) pe_int)
      (pss_cons (ps_for PassesOwn.never rfl (pi_range1 rfl B.range (pa_cons (pv 4) pa_nil)) (pg_name (i := 6) sc_rnum.nd rfl (.inl rfl))
        (pss_one (ps_set (i := 5) sc_rnum.nd rfl (.inl rfl) (pe_op op_add (pe_op op_mul pe_int (pv 5)) (pmeth0 GE hr (by decide) (pv 0))))))
      (pss_one (ps_ret (pB (call_min2 rfl) B.min (pa_cons (pe_op op_sub (pv 5) pe_int) (pa_cons (pv 2) pa_nil))))))))), ?_⟩
    refine ⟨_, rfl, most, 0, 8190, rfl, hm0, hm1, _, rfl, iteF ?_⟩
    refine ⟨_, rfl, _, _, rfl, rfl, most + 1, rfl, ?_⟩
    rw [eg]
    refine ⟨_, _, rfl, ?_⟩
    -- behind the while
    have fin : ∀ (k : Nat) (s2 : CS Str) (H1 : Hp), run (fn L) (upT (nmOf x) g 0) s1 = (k, s2) → k ≤ g → CoS C (exR L t) p d H1 s2 → But p d H H1 →
        tSeq (tAsg (tC (.int 1)) (gName 5)) (tSeq (tFor (iRng1 (tCons (tVar 4) tNil)) (gName 6) (tAsg (tOp (rI0 fun i j => .int (i + j)) (tOp (rI CMul fun i j => .int (i * j)) (tC (.int 2)) (tVar 5)) (tMeth C "even" (spREven K C L t) [] E0 (tVar 0) tNil)) (gName 5)))
          (tRet (tCB (fun xs H Q => ∃ i j, xs = [V.int i, V.int j] ∧ Q (.int (if j < i then j else i)) H) (tCons (tOp (rI0 fun i j => .int (i - j)) (tVar 5) (tC (.int 1))) (tCons (tVar 2) tNil)))))
          { nx := fun _ H' => Q .non H', rt := Q } [some (.ref p), some (.str x), some (.int most), some (.int g), some (.int k), none, none] H1 := by
      intro k s2 H1 e1 hk S1 b1
      rw [e1] at q
      refine ⟨_, rfl, (k : Int), rfl, by omega, by omega, for_range (lo := 0) (n := (k : Int).toNat) (fun i σ H' => ∃ (v : Int) (s3 : CS Str) (z : Option V), σ = [some (.ref p), some (.str x), some (.int most), some (.int g), some (.int k), some (.int v), z] ∧ CoS C (exR L t) p d H' s3 ∧ But p d H H' ∧
          run (fn L) (evT (k - i) v) s3 = run (fn L) (evT k 1) s2) ⟨1, s2, none, rfl, S1, b1, rfl⟩ ?_ ?_⟩
      · rintro i σ H' hi ⟨v, s3, z, rfl, S3, b3, e3⟩
        obtain ⟨dx, hp⟩ := S3.ob
        refine ⟨_, rfl, _, _, rfl, rfl, .inl ⟨by decide, by decide⟩, _, rfl, p, dx, _, rfl, hp, cf_meth exR_no, p, d, s3, rfl, S3, JR.but hj S b3, fun H'' S4 b4 => ?_⟩
        refine ⟨_, _, rfl, rfl, 2 * v + b2i (rd (fn L) none s3), step none (rd (fn L) none s3) s3, some (.int (0 + (i : Nat))), rfl, S4, b3.trans b4, ?_⟩
        rw [← e3, show k - i = (k - (i + 1)) + 1 from by omega]
        rfl
      · rintro σ H' ⟨v, s3, z, rfl, S3, b3, e3⟩
        rw [Int.toNat_natCast, Nat.sub_self] at e3
        rw [← e3] at q
        refine ⟨_, rfl, _, _, rfl, rfl, _, rfl, _, _, rfl, ?_⟩
        have hq := q H' S3 b3
        have em : (if most < v - 1 then most else v - 1) = min (v - 1) most := by
          split <;> omega
        show Q (.int (if most < v - 1 then most else v - 1)) H'
        rw [em]
        exact hq
    refine ⟨fun m σ H' => ∃ (k : Nat) (s2 : CS Str), σ = [some (.ref p), some (.str x), some (.int most), some (.int g), some (.int k), none, none] ∧ k ≤ g ∧ m = g - k ∧ CoS C (exR L t) p d H' s2 ∧ But p d H H' ∧ s2.m ≤ s1.m + k ∧
      run (fn L) (upT (nmOf x) (g - k) k) s2 = run (fn L) (upT (nmOf x) g 0) s1, ⟨_, 0, s1, rfl, Nat.zero_le _, rfl, S, But.refl H, Nat.le_refl _, rfl⟩, ?_⟩
    rintro m σ H' ⟨k, s2, rfl, hk, rfl, S2, b2, hm2, e2⟩
    refine ⟨_, rfl, _, rfl, _, _, rfl, rfl, _, rfl, ite2 (fun cc => ?_) (fun cc => ?_)⟩
    · have c1 : k < g := by have := of_decide_eq_true cc; omega
      obtain ⟨dx, hp⟩ := S2.ob
      rw [show g - k = (g - (k + 1)) + 1 from by omega] at e2
      refine ⟨_, rfl, p, dx, _, rfl, hp, cf_meth exR_no, x, _, k, rfl, rfl, rfl, hx, by omega, p, d, nmOf x k, s2, rfl, S2, JR.but hj S b2, by omega, fun H'' S3 b3 => ?_⟩
      have e2' : run (fn L) (if rd (fn L) (some (nmOf x k)) s2 = true then upT (nmOf x) (g - (k + 1)) (k + 1) else .ret k) (step (some (nmOf x k)) (rd (fn L) (some (nmOf x k)) s2) s2) = run (fn L) (upT (nmOf x) g 0) s1 := e2
      generalize hb : rd (fn L) (some (nmOf x k)) s2 = b at S3 e2'
      refine ⟨rfl, _, rfl, ?_⟩
      cases b with
      | true =>
        rw [if_pos rfl] at e2'
        refine iteT ⟨fun σ' H4 => σ' = [some (.ref p), some (.str x), some (.int most), some (.int g), some (.int ((k + 1 : Nat) : Int)), none, none] ∧ H4 = H'', fun σ' H4 e => ⟨g - (k + 1), by omega, k + 1, step (some (nmOf x k)) true s2, e.1, c1, rfl, by rw [e.2]; exact S3, by rw [e.2]; exact b2.trans b3, by rw [step_m]; omega, e2'⟩, ?_⟩
        exact ⟨_, rfl, _, _, rfl, rfl, rfl, rfl⟩
      | false =>
        rw [if_neg (by decide)] at e2'
        exact iteF (fin k _ H'' e2'.symm hk S3 (b2.trans b3))
    · have c1 : ¬ k < g := fun z => cc (decide_eq_true (by omega))
      have ek : k = g := by omega
      subst ek
      rw [Nat.sub_self] at e2
      exact iteF (fin k s2 H' e2.symm hk S2 b2)
/-! Reader.__init__, Writer.__init__: the objects made -/
def spRInit (K : PySem.W.Frag) (C : Addr) : Sp := fun vs H Q _ => ∃ (p dx t : Addr) (L : List Int), vs = [.ref p, .ref t] ∧ H p = some (.ins C dx []) ∧ SqT K H t (L.map V.int) ∧ ∀ (d : Addr) (H' : Hp), H d = none → CoS C (exR L t) p d H' s0 → But p d H H' → Q .non H'
theorem sc_rinit : FnScope ["self", "letters", "at"] ["self", "letters"] (defScope sm_Reader_init) := ⟨rfl, rfl, rfl, by decide +kernel, rfl, by decide +kernel, by decide +kernel⟩
theorem call_tup : CallR X (.type "tuple") (fun xs H Q => ∃ p ys, xs = [.ref p] ∧ SqT X.K H p ys ∧ Q (.ref p) H) := by
  intro pins s σ H xs us Q I r h
  obtain ⟨p, ys, rfl, hs, q⟩ := h
  exact call_tuple_of pins s σ H _ us Q I r ⟨p, _, rfl, .inr ⟨hs, q⟩⟩
end
end K4
namespace K4
open PySem PySem.Spec PyProof.Rows L2
variable {P : Program} {w : World} {K : PySem.W.Frag} {mg : Str → Option Value} {base : Heap}
section
variable {C C0 : Addr}
theorem d_rinit (B : Bt mg) (N : Ct mg) (c : Crd K C) {f0 f : Addr} {fd0 fd : FuncData} (D : FnP K "__init__" "Reader.__init__" sm_Reader_init f fd) (R : Cr K C0 "__init__" (.ref f0)) (gC0 : mg "Coder" = some (.ref C0))
    (F0 : FnOk P w K mg base CX0 1 f0 fd0 ["self"] (spInit C) ∧ Binds K fd0 ["self"] []) (kp0 : PySem.W.keepIn K (.ref f0) = true) (GS : Mk4 P w K mg base 1 C "sign_at" ["self", "at"] (spSignAt K C)) :
    FnOk P w K mg base CX0 2 f fd ["self", "letters"] (spRInit K C) ∧ Binds K fd ["self", "letters"] [] := by
  refine ⟨D.ok sc_rinit (fun vs H Q E h => ?_) (fun cdv A outer s H vs Q E hr h => ?_), D.bindsN fun _ _ _ _ _ _ us hl => match us, hl with | [_, _], _ => rfl⟩
  · obtain ⟨p, dx, t, L, rfl, _⟩ := h
    rfl
  · obtain ⟨p, dx, t, L, rfl, hp, hs, q⟩ := h
    refine ⟨_, PSs.nox (pss_cons (ps_expr (pcls R F0.1 F0.2 kp0 hr (by decide) gC0 (pa_cons (pv 0) pa_nil)))
      (pss_cons (ps_fld (pv 0) (pT call_tup B.tuple (pa_cons (pv 1) pa_nil)) rfl)
      (pss_cons (ps_fld (pv 0) pe_int rfl)
      (pss_one (ps_for PassesOwn.never rfl (pi_range1 rfl B.range (pa_cons (pgI N.ahead) pa_nil)) (pg_name (i := 2) sc_rinit.nd rfl (.inl rfl))
        (pss_one (ps_fld (pv 0) (pe_op op_add (pe_op op_mul (pe_fld (pv 0) rfl) pe_int) (pmeth GS hr (by decide) (pv 0) (pa_cons (pv 2) pa_nil))) rfl))))))), ?_⟩
    refine ⟨_, rfl, p, dx, rfl, hp, fun d H1 hd S1 b1 => ?_⟩
    obtain ⟨⟨⟨dx1, hp1⟩, _⟩, kvs, hd1, hc1, hl1⟩ := id S1
    have npd : p ≠ d := ne_of hp1 hd1 (by intro z; cases z)
    have hs1 : SqT K H1 t (L.map V.int) := by
      rcases hs with (h | ⟨ob, h⟩) | h
      · exact .inl (.inl (b1 _ _ h (ne_of h hp (fun z => nomatch z)) (ne_of_none h hd)))
      · exact .inl (.inr ⟨ob, b1 _ _ h (ne_of h hp (fun z => nomatch z)) (ne_of_none h hd)⟩)
      · exact .inr h
    refine ⟨_, rfl, t, _, rfl, hs1, _, rfl, p, C, dx1, _, rfl, hp1, c.cl, c.signs, by show 5 < 1000; decide, ?_⟩
    refine ⟨_, rfl, p, C, dx1, _, rfl, upd_same, c.cl, c.code, by show 6 < 1000; decide, ?_⟩
    rw [upd_upd]
    have e0 : putF ("code" : Str) (.int 0) (putF ("signs" : Str) (.ref t) (cf (s0 : CS Str).low (s0 : CS Str).wide (256 ^ ((s0 : CS Str).n + 4)) ((s0 : CS Str).n : Nat) d [])) = cf (s0 : CS Str).low (s0 : CS Str).wide (256 ^ ((s0 : CS Str).n + 4)) ((s0 : CS Str).n : Nat) d [("signs", .ref t), ("code", .int (codeAt (fn L) 0))] := by
      rw [cf_put (by decide +kernel), cf_put (by decide +kernel)]
      refine congrArg _ ((pf_neg (by decide +kernel)).trans rfl)
    rw [e0]
    refine ⟨4, rfl, by omega, by omega, for_range (lo := 0) (n := 4) (fun i σ H' => ∃ z, σ = [some (.ref p), some (.ref t), z] ∧ H' = upd H1 p (.ins C dx1 (cf (s0 : CS Str).low (s0 : CS Str).wide (256 ^ ((s0 : CS Str).n + 4)) ((s0 : CS Str).n : Nat) d [("signs", .ref t), ("code", .int (codeAt (fn L) i))]))) ⟨none, rfl, rfl⟩ ?_ ?_⟩
    · rintro i σ H' hi ⟨z, rfl, rfl⟩
      have lc : ∀ v : V, (cf (s0 : CS Str).low (s0 : CS Str).wide (256 ^ ((s0 : CS Str).n + 4)) ((s0 : CS Str).n : Nat) d [("signs", .ref t), ("code", v)]).lookup ("code" : Str) = some v := fun v => (cf_no (by decide +kernel)).trans ((lk_neg (by decide +kernel)).trans lk_pos)
      have ls : ∀ v : V, (cf (s0 : CS Str).low (s0 : CS Str).wide (256 ^ ((s0 : CS Str).n + 4)) ((s0 : CS Str).n : Nat) d [("signs", .ref t), ("code", v)]).lookup ("signs" : Str) = some (.ref t) := fun v => (cf_no (by decide +kernel)).trans lk_pos
      refine ⟨_, rfl, p, C, dx1, _, _, rfl, upd_same, c.cl, c.code, lc _, _, _, rfl, rfl, small_mul, _, rfl, p, dx1, _, rfl, upd_same, ?_, _, rfl, p, t, dx1, _, L, i, ?_, upd_same, ls _, ?_, _, _, rfl, rfl, _, rfl, p, C, dx1, _, rfl, upd_same, c.cl, c.code, by rw [cf_len]; show 7 < 1000; decide, some (.int (0 + (i : Nat))), rfl, ?_⟩
      · exact (cf_no (by decide +kernel)).trans ((lk_neg (by decide +kernel)).trans (lk_neg (by decide +kernel)))
      · show [V.ref p, V.int (0 + (i : Nat))] = [V.ref p, V.int (i : Nat)]
        rw [Int.zero_add]
      · exact seqT_upd hp1 (fun _ z => nomatch z) (fun _ _ z => nomatch z) hs1
      · rw [upd_upd, cf_put (by decide +kernel)]
        refine congrArg (fun e => upd H1 p (.ins C dx1 (cf (s0 : CS Str).low (s0 : CS Str).wide (256 ^ ((s0 : CS Str).n + 4)) ((s0 : CS Str).n : Nat) d e))) ((pf_neg (by decide +kernel)).trans (congrArg _ (pf_pos.trans ?_)))
        rfl
    · rintro σ H' ⟨z, rfl, rfl⟩
      refine q d _ hd ⟨⟨⟨dx1, upd_same⟩, s0_ok⟩, kvs, by rw [upd_ne npd.symm]; exact hd1, hc1, hl1⟩ (But.upd1 b1)
/-! Writer(), Reader(letters) -/
end
/-! ### data -/
/-- tuples stay -/
def TK (K : PySem.W.Frag) (H H' : Hp) : Prop := ∀ a xs, SqT K H a xs → SqT K H' a xs
theorem TK.refl (H : Hp) : TK K H H := fun _ _ h => h
theorem TK.trans {H H1 H2 : Hp} (a : TK K H H1) (b : TK K H1 H2) : TK K H H2 := fun x xs h => b x xs (a x xs h)
theorem _root_.L2.Same.tk {H H' : Hp} (s : Same H H') : TK K H H' := fun a xs h => by
  rcases h with (h | ⟨ob, h⟩) | h
  · exact .inl (.inl (s _ _ h))
  · exact .inl (.inr ⟨ob, s _ _ h⟩)
  · exact .inr h
/-- o is no tuple -/
def NoT : Option HO → Prop
  | some (.tup _) => False
  | some (.frz _ _) => False
  | _ => True
theorem TK.upd {H : Hp} {a : Addr} {u : HO} (h : NoT (H a)) : TK K H (upd H a u) := fun b xs hb => by
  rcases hb with (hb | ⟨ob, hb⟩) | hb
  · exact .inl (.inl (by rw [upd_ne (fun e => by rw [← e, hb] at h; exact h)]; exact hb))
  · exact .inl (.inr ⟨ob, by rw [upd_ne (fun e => by rw [← e, hb] at h; exact h)]; exact hb⟩)
  · exact .inr hb
theorem TK.but {p d : Addr} {H H' : Hp} (b : But p d H H') (hp : NoT (H p)) (hd : NoT (H d)) : TK K H H' := fun a xs h => by
  rcases h with (h | ⟨ob, h⟩) | h
  · exact .inl (.inl (b _ _ h (fun e => by rw [← e, h] at hp; exact hp) (fun e => by rw [← e, h] at hd; exact hd)))
  · exact .inl (.inr ⟨ob, b _ _ h (fun e => by rw [← e, h] at hp; exact hp) (fun e => by rw [← e, h] at hd; exact hd)⟩)
  · exact .inr h
theorem But.same {p d : Addr} {H H' : Hp} (b : But p d H H') (hp : H p = none) (hd : H d = none) : Same H H' := fun a u e => b a u e (ne_of_none e hp) (ne_of_none e hd)
def IsV (K : PySem.W.Frag) (H : Hp) (x : V) (v : Vec) : Prop := ∃ a, x = .ref a ∧ SqT K H a [.int v.1, .int v.2]
def IsOV (K : PySem.W.Frag) (H : Hp) (x : V) : Option Vec → Prop
  | none => x = .non
  | some v => IsV K H x v
def IsR (K : PySem.W.Frag) (H : Hp) (x : V) (r : List Int) : Prop := ∃ a, x = .ref a ∧ SqT K H a (r.map V.int)
def bes (i : Nat) : Str := if i = 0 then "flat" else if i = 1 then "left" else if i = 2 then "above" else "slope"
/-- the items of a choice -/
def ChX (K : PySem.W.Frag) (H : Hp) (xs : List V) : Ch → Prop
  | .bes i r => ∃ y, xs = [.str (bes i), y] ∧ IsR K H y r
  | .as w => xs = [.str "as", .int (b2i w)]
  | .mov w v r => ∃ x y, xs = [.str "moved", .int (b2i w), x, y] ∧ IsV K H x v ∧ IsR K H y r
  | .both v u r => ∃ x z y, xs = [.str "both", x, z, y] ∧ IsV K H x v ∧ IsV K H z u ∧ IsR K H y r
def IsCh (K : PySem.W.Frag) (H : Hp) (x : V) (c : Ch) : Prop := ∃ a xs, x = .ref a ∧ SqT K H a xs ∧ ChX K H xs c
def IsCs (K : PySem.W.Frag) (H : Hp) (xs : List V) (cs : List Ch) : Prop := Paired (fun x c => IsCh K H x c) xs cs
def IsCt (K : PySem.W.Frag) (H : Hp) (x : V) (cs : List Ch) : Prop := ∃ a xs, x = .ref a ∧ SqT K H a xs ∧ IsCs K H xs cs
theorem IsV.tk {H H' : Hp} {x : V} {v : Vec} (t : TK K H H') (h : IsV K H x v) : IsV K H' x v := by
  obtain ⟨a, e, h⟩ := h
  exact ⟨a, e, t _ _ h⟩
theorem IsOV.tk {H H' : Hp} {x : V} {v : Option Vec} (t : TK K H H') (h : IsOV K H x v) : IsOV K H' x v := by
  cases v with
  | none => exact h
  | some v => exact IsV.tk t h
theorem IsR.tk {H H' : Hp} {x : V} {r : List Int} (t : TK K H H') (h : IsR K H x r) : IsR K H' x r := by
  obtain ⟨a, e, h⟩ := h
  exact ⟨a, e, t _ _ h⟩
theorem ChX.tk {H H' : Hp} {xs : List V} {c : Ch} (t : TK K H H') (h : ChX K H xs c) : ChX K H' xs c := by
  cases c with
  | bes i r => obtain ⟨y, e, h⟩ := h; exact ⟨y, e, h.tk t⟩
  | as w => exact h
  | mov w v r => obtain ⟨x, y, e, h1, h2⟩ := h; exact ⟨x, y, e, h1.tk t, h2.tk t⟩
  | both v u r => obtain ⟨x, z, y, e, h1, h2, h3⟩ := h; exact ⟨x, z, y, e, h1.tk t, h2.tk t, h3.tk t⟩
theorem IsCh.tk {H H' : Hp} {x : V} {c : Ch} (t : TK K H H') (h : IsCh K H x c) : IsCh K H' x c := by
  obtain ⟨a, xs, e, h1, h2⟩ := h
  exact ⟨a, xs, e, t _ _ h1, h2.tk t⟩
theorem IsCs.tk {H H' : Hp} {xs : List V} {cs : List Ch} (t : TK K H H') (h : IsCs K H xs cs) : IsCs K H' xs cs := by
  induction h with
  | nil => exact .nil
  | cons a b ih => exact .cons (IsCh.tk t a) ih
theorem IsCt.tk {H H' : Hp} {x : V} {cs : List Ch} (t : TK K H H') (h : IsCt K H x cs) : IsCt K H' x cs := by
  obtain ⟨a, xs, e, h1, h2⟩ := h
  exact ⟨a, xs, e, t _ _ h1, h2.tk t⟩
end K4
namespace K4
open PySem PySem.Spec PyProof.Rows L2
/-! ### a, *b = a tuple -/
theorem tup_iter_shift {prog : Program} {w : World} {A : Around} (hh : A.handled = none) (I ax : Addr) (hne : ax ≠ I) (items : Array Value) (k n : Nat) (hn : k + n = items.size) :
    Walks prog w A I [I, ax] [I] n (fun i v => items[k + i]? = some v) (fun i h => h.IsTupleIter I ax (k + i) ∧ h.IsTuple ax items) where
  sub := fun b hb => by simp at hb; simp [hb]
  frame := fun _ _ _ st hk => ⟨st.1.at fun o e => hk I (by simp) o e, st.2.at fun o e => hk ax (by simp) o e⟩
  item := fun i s Q E hi st hQ => by
    have hlt : k + i < items.size := by omega
    refine wpAny_pyNext_tuple_item st.1 st.2 (x := items[k + i]) (by simp [hlt]) fun h' hit' hs' => ?_
    exact hQ _ h' s.toks (by simp [hlt]) ⟨hit', st.2.extBut hs'.extBut hne⟩ fun b o hb e => hs'.extBut b o (fun h => hb (by simp [h])) e
  done := fun s Q E st hQ => wpAny_pyNext_tuple_end hh st.1 st.2 (by simp [hn]) fun h' he' => hQ h' s.toks fun b o hb e => he' b o (fun h => hb (by simp [h])) e
  self := fun _ _ _ _ st hQ => wpAny_pyIter_tupleiter st.1 hQ
section
variable {prog : Program} {w : World} {A : Around} {E : Value → Shared → Prop} {s : Shared}
theorem unpackItems_star1 {t : Addr} {x : Value} {rest : List Value} {Q : List Value → Shared → Prop} (hh : A.handled = none) (ht : IsTup s.heap t (x :: rest).toArray) (hz : rest.length ≤ sizeLine)
    (hQ : ∀ h' p tk, (∀ b o, s.heap.get? b = some o → h'.get? b = some o) → s.heap.get? p = none → h'.get? p = some { cls := .type "list", data := .seq rest.toArray } → Q [x, .ref p] { s with heap := h', toks := tk }) :
    wpAny (model prog w) A (unpackItems (.ref t) 2 (some 1)) Q E s := by
  have htlt : t < s.heap.objs.size := by obtain ⟨o, ho, _⟩ := ht; exact Heap.lt_size ho
  have hlt : t ≠ s.heap.objs.size := Nat.ne_of_lt htlt
  unfold unpackItems
  refine wpAny_bind ?_
  · unfold notIterableAtAll
    refine wpAny_bind (wpAny_specialOf ht.typeIs slot_tuple_iter.lookup ?_)
    refine wpAny_pure ?_
    simp only [Bool.false_eq_true, if_false]
    refine wpAny_bind (wpAny_holding (iter_tuple ht ?_))
    refine wpAny_bind (wpAny_holding (draw_tuple hlt 1 0 _ _ ⟨_, Heap.get?_push_size _ rfl, rfl, rfl⟩ (ht.push _) (by simp) fun h₁ hit₁ hs₁ => ?_))
    have hall : List.take 1 (List.drop 0 (x :: rest).toArray.toList) = [x] := by simp
    rw [hall]
    rw [if_neg (by simp)]
    have ht₁ : IsTup h₁ t (x :: rest).toArray := (ht.push _).extBut hs₁.extBut hlt
    have hsz : s.heap.objs.size < h₁.objs.size := by
      obtain ⟨o, ho, _⟩ := hit₁
      exact Heap.lt_size ho
    refine wpAny_bind (wpAny_holding (wpAny_collect_iter (T := "tuple_iterator") (.inr (.inr (.inr rfl))) (s := { s with heap := h₁ }) (tup_iter_shift (A := A.in1) hh s.heap.objs.size t hlt (x :: rest).toArray 1 rest.length (by simp; omega)).toS
      (fun i s' st => st.1.typeIs) ⟨hit₁, ht₁⟩ (fun b hb => ?_) (by simp) (fun s' acc mv it => ?_) hz))
    · have e' : b = s.heap.objs.size ∨ b = t := by simpa using hb
      rcases e' with e | e
      · rw [e]; exact hsz
      · rw [e]; exact Nat.lt_trans htlt hsz
    · obtain ⟨h', g', d', tk', os'⟩ := s'
      have eg : g' = s.gens := mv.gens
      have ed : d' = s.drawn := mv.drawn
      have eo : os' = s.os := mv.os
      subst eg ed eo
      have ea : acc.toList = rest := by
        refine List.ext_getElem? fun j => ?_
        rcases hj : acc[j]? with _ | v
        · have h1 : acc.size ≤ j := Array.getElem?_eq_none_iff.mp hj
          rw [it.1] at h1
          rw [Array.getElem?_toList, hj, List.getElem?_eq_none h1]
        · have h2 : (x :: rest).toArray[1 + j]? = some v := it.2 j v hj
          rw [Array.getElem?_toList, hj]
          rw [show (1 + j : Nat) = j + 1 from Nat.add_comm 1 j] at h2
          simpa using h2.symm
      rw [ea]
      have hk : ∀ b o, s.heap.get? b = some o → h'.get? b = some o := fun b o e => mv.heap b o (fun hm => by
        have e' : b = s.heap.objs.size := by simpa using hm
        exact absurd (Heap.lt_size e) (by rw [e']; exact Nat.lt_irrefl _)) (hs₁.extBut b o (Nat.ne_of_lt (Heap.lt_size e)) (Heap.get?_push_of_some _ e))
      simp only [List.length_cons, List.length_nil, Nat.reduceAdd, Nat.reduceSub, Nat.sub_self, Nat.sub_zero]
      rw [if_neg (by omega)]
      simp only [List.take_length, List.drop_length]
      refine wpAny_bind (wpAny_newList ?_ hz)
      refine wpAny_pure ?_
      refine hQ _ h'.objs.size tk' (fun b o e => Heap.get?_push_of_some _ (hk b o e)) ?_ (Heap.get?_push_size _ rfl)
      cases e : s.heap.get? h'.objs.size with
      | none => rfl
      | some o => exact absurd (Heap.lt_size (hk _ _ e)) (Nat.lt_irrefl _)
end
theorem objok_live {P : Program} {w : World} {H : Hp} {h : Heap} {a : Addr} {o : HO} (x : ObjOk P w H h a o) : ∃ u, h.get? a = some u := by
  cases o with
  | lst xs => obtain ⟨_, _, _, _, e⟩ := x; exact ⟨_, e⟩
  | tup xs => obtain ⟨_, _, _, u, e, _⟩ := x; exact ⟨u, e⟩
  | dK kvs => obtain ⟨_, _, _, _, o, _, _, e, _⟩ := x; exact ⟨_, e⟩
  | dT kvs => obtain ⟨_, _, _, _, o, _, _, e, _⟩ := x; exact ⟨_, e⟩
  | set S n => obtain ⟨o, _, _, _, e, _⟩ := x; exact ⟨_, e⟩
  | ins C dx fs => obtain ⟨_, _, _, e, _⟩ := x; exact ⟨_, e⟩
  | own y => exact x
  | xd fs => obtain ⟨_, ⟨_, _, _, e, _⟩, _⟩ := x; exact ⟨_, e⟩
  | rng lo hi => obtain ⟨_, _, _, e⟩ := x; exact ⟨_, e⟩
  | frz ob u => obtain ⟨e, _⟩ := x; exact ⟨_, e⟩
  | tbl ps => exact ⟨_, (show h.get? a = some _ from x)⟩
  | met f y => exact ⟨_, (show h.get? a = some _ from x)⟩
  | ext φ => obtain ⟨_, e, _⟩ := x; exact e
theorem hok_none {P : Program} {w : World} {H : Hp} {h : Heap} {a : Addr} (x : HOk P w H h) (e : h.get? a = none) : H a = none := by
  cases q : H a with
  | none => rfl
  | some u => obtain ⟨v, z⟩ := objok_live (x a u q); rw [e] at z; cases z
/-- a, *b = a tuple -/
def gStar (K : PySem.W.Frag) (t : TGs) : TG := fun v σ H Q => ∃ a x xs, v = .ref a ∧ SqT K H a (x :: xs) ∧ ∀ p, H p = none → t [x, .ref p] σ (upd H p (.lst xs)) Q
section
variable {X : Cx} {pos : Pos}
theorem pg_star1 {es : List Expr} {k : Nat} {t : TGs} (hc : X.calm = true) (h : PGs X es t) (hn : (assignEach es X.env).length = 2 := by rfl) (hst : (assignEach es X.env).findIdx? (·.1) = some 1 := by rfl) : PG X (.Tuple es k pos) (gStar X.K t) := by
  refine ⟨fun pins s σ H v u Q I r hw => ?_⟩
  obtain ⟨a, x, xs, e1, hq, hw⟩ := hw
  subst e1
  cases r
  obtain ⟨its, rv, ht, hz⟩ := I.tuple hq
  cases rv with
  | @cons _ u0 _ ur r0 rr =>
    rw [PyProof.Rows.assign_Tuple]
    refine wpAny_bind (wpAny_standAt ?_)
    unfold unpack
    rw [hn, hst]
    have hz' : ur.length ≤ sizeLine := by
      have e := rr.length
      simp only [List.length_cons] at hz
      omega
    refine wpAny_bind (wpAny_holding (unpackItems_star1 (I.ok.hd hc) ht hz' fun h' p tk hk hp hl => ?_))
    have hpn := hok_none I.hok hp
    have hz2 : xs.length ≤ sizeLine := by rw [rr.length]; exact hz'
    have I1 : Inv X pins σ (upd H p (.lst xs)) { s with heap := h', toks := tk } := I.laidN (t' := tk) hk hp hpn ⟨hz2, ur, 0, rr, hl⟩
    exact h.run pins _ σ _ [x, .ref p] _ Q I1 (.cons r0 (.cons rfl .nil)) (hw p hpn)
end
end K4
namespace K4
open PySem PySem.Spec PyProof.Rows L2
/-! ### enumerate(v) -/
theorem meets_enum1B {v : Value} {o : Obj} {H : Heap → Prop} (B : Begins v o H) :
    Meets (Builtin.«enumerate.__new__» ⟨[.type "enumerate", v], []⟩) (fun _ R s => H s.heap ∧
      R (.ok (.ret (.ref (s.heap.push o).objs.size))) { s with heap := (s.heap.push o).push { cls := .type "enumerate", data := .fields #[.none, .bool false, .ref s.heap.objs.size, rawInt 0, .none, .none] } }) :=
  .of_wp fun prog w A R s h => by
    obtain ⟨hp, g, d, tk, os⟩ := s; obtain ⟨h1, h⟩ := h
    have hsub := sub_enumerate
    have q1 : ∀ {A' : Around} {E : Value → Shared → Prop} {Q : Value → Shared → Prop}, Q (.ref hp.objs.size) ⟨hp.push o, g, d, tk, os⟩ → wpAny (model prog w) A' (pyIter v) Q E ⟨hp, g, d, tk, os⟩ :=
      fun q => B.iter prog w _ _ ⟨hp, g, d, tk, os⟩ _ h1 q
    wp_walk using q1
    refine wpAny_stack_any fun st => wpAny_pure ?_
    split
    · rename_i c _ _ _ _ _
      cases (c == Value.type "enumerate")
      · wp_walk using q1
        exact ⟨_, rfl, h⟩
      · wp_walk using q1
        exact ⟨_, rfl, h⟩
    · wp_walk using q1
      exact ⟨_, rfl, h⟩
theorem meets_enum1S {v : Value} {it : Addr} {H : Heap → Prop} (B : ∀ (prog : Program) (w : World) (A : Around) (E : Value → Shared → Prop) (s : Shared) (Q : Value → Shared → Prop), H s.heap → Q (.ref it) s → wpAny (model prog w) A (pyIter v) Q E s) :
    Meets (Builtin.«enumerate.__new__» ⟨[.type "enumerate", v], []⟩) (fun _ R s => H s.heap ∧
      R (.ok (.ret (.ref s.heap.objs.size))) { s with heap := s.heap.push { cls := .type "enumerate", data := .fields #[.none, .bool false, .ref it, rawInt 0, .none, .none] } }) :=
  .of_wp fun prog w A R s h => by
    obtain ⟨hp, g, d, tk, os⟩ := s; obtain ⟨h1, h⟩ := h
    have hsub := sub_enumerate
    have q1 : ∀ {A' : Around} {E : Value → Shared → Prop} {Q : Value → Shared → Prop}, Q (.ref it) ⟨hp, g, d, tk, os⟩ → wpAny (model prog w) A' (pyIter v) Q E ⟨hp, g, d, tk, os⟩ :=
      fun q => B prog w _ _ ⟨hp, g, d, tk, os⟩ _ h1 q
    wp_walk using q1
    refine wpAny_stack_any fun st => wpAny_pure ?_
    split
    · rename_i c _ _ _ _ _
      cases (c == Value.type "enumerate")
      · wp_walk using q1
        exact ⟨_, rfl, h⟩
      · wp_walk using q1
        exact ⟨_, rfl, h⟩
    · wp_walk using q1
      exact ⟨_, rfl, h⟩
section
variable {prog : Program} {w : World} {A : Around} {E : Value → Shared → Prop} {s : Shared}
theorem enum_begins1 {v : Value} {o : Obj} {H : Heap → Prop} {Q : Value → Shared → Prop} (B : Begins v o H) (h1 : H s.heap)
    (h : ∀ h', IsEnum h' (s.heap.objs.size + 1) s.heap.objs.size 0 .none → h'.get? s.heap.objs.size = some o → h'.objs.size = s.heap.objs.size + 2 →
      (∀ b o, s.heap.get? b = some o → h'.get? b = some o) → Q (.ref (s.heap.objs.size + 1)) { s with heap := h' }) :
    wpAny (model prog w) A (call (.type "enumerate") [v]) Q E s := by
  refine callType_new F.called_enumerate (by decide) (F.typeCall_enumerate_1 _) (F.newCall_enumerate_1 _) (fun obj => F.args_object_init_2 obj _) F.entry_enumerate_new (meets_enum1B B) ⟨h1, ?_⟩
  have hz : (s.heap.push o).objs.size = s.heap.objs.size + 1 := Heap.size_push ..
  show _ ∧ _
  rw [hz]
  have he : IsEnum ((s.heap.push o).push { cls := .type "enumerate", data := .fields #[.none, .bool false, .ref s.heap.objs.size, rawInt 0, .none, .none] }) (s.heap.objs.size + 1) s.heap.objs.size 0 .none := by
    have := Heap.get?_push_size (s.heap.push o) (o := { cls := .type "enumerate", data := .fields #[.none, .bool false, .ref s.heap.objs.size, rawInt 0, .none, .none] }) rfl
    rw [hz] at this; exact this
  refine ⟨⟨_, he, rfl⟩, h _ he (Heap.get?_push_of_some _ (Heap.get?_push_size _ B.free)) (by rw [Heap.size_push, hz]) fun b o x => Heap.get?_push_of_some _ (Heap.get?_push_of_some _ x)⟩
theorem enum_begins1S {v : Value} {it : Addr} {H : Heap → Prop} {Q : Value → Shared → Prop} (B : ∀ (prog : Program) (w : World) (A : Around) (E : Value → Shared → Prop) (s : Shared) (Q : Value → Shared → Prop), H s.heap → Q (.ref it) s → wpAny (model prog w) A (pyIter v) Q E s) (h1 : H s.heap)
    (h : ∀ h', IsEnum h' s.heap.objs.size it 0 .none → (∀ b o, s.heap.get? b = some o → h'.get? b = some o) → Q (.ref s.heap.objs.size) { s with heap := h' }) :
    wpAny (model prog w) A (call (.type "enumerate") [v]) Q E s := by
  refine callType_new F.called_enumerate (by decide) (F.typeCall_enumerate_1 _) (F.newCall_enumerate_1 _) (fun obj => F.args_object_init_2 obj _) F.entry_enumerate_new (meets_enum1S B) ⟨h1, ?_⟩
  have he : IsEnum (s.heap.push { cls := .type "enumerate", data := .fields #[.none, .bool false, .ref it, rawInt 0, .none, .none] }) s.heap.objs.size it 0 .none := Heap.get?_push_size _ rfl
  exact ⟨⟨_, he, rfl⟩, h _ he fun b o x => Heap.get?_push_of_some _ x⟩
end
/-- the tuple at a, each item in a new pair with its place -/
def IteT (K : PySem.W.Frag) (a : Addr) : It :=
  ⟨fun i H => ∃ (xs : List V) (x : V), SqT K H a xs ∧ xs[i]? = some x, fun i H v H' => ∃ T x, v = .ref T ∧ H T = none ∧ H' = upd H T (.tup [.int (i : Nat), x]) ∧ ∀ xs, SqT K H a xs → xs[i]? = some x, fun i H => ∃ xs : List V, SqT K H a xs ∧ xs.length = i⟩
theorem turn_enumT {P : Program} {w : World} {K : PySem.W.Frag} {elts : List Expr} {kk : Nat} {tpos : Pos} {a e it : Addr} (hea : e ≠ a) (hai : a ≠ it) (hne : e ≠ it) :
    Turn P w K (.Tuple elts kk tpos) (IteT K a) [e, it] e (fun i h => (∃ old, IsEnum h e it ((i : Nat) : Int) old) ∧ h.IsTupleIter it a i) where
  mem := by simp
  obj := fun i h st b hb => by
    obtain ⟨⟨old, he⟩, ⟨o, ho, hc, hd⟩⟩ := st
    have e' : b = e ∨ b = it := by simpa using hb
    rcases e' with z | z
    · rw [z]; exact ⟨_, he, fun v q => nomatch q⟩
    · rw [z]; exact ⟨o, ho, fun v q => by rw [hd] at q; cases q⟩
  keep := fun i h h' st k => let ⟨⟨old, he⟩, hi⟩ := st; ⟨⟨old, k e (by simp) _ he⟩, hi.at fun o q => k it (by simp) o q⟩
  item := by
    intro X hP hw hK hc i pins s σ H E I hf st hg
    subst hP hw hK
    obtain ⟨⟨old, he⟩, hit⟩ := st
    obtain ⟨xs, x, hq, hx⟩ := hg
    obtain ⟨its, rv, p, hz⟩ := I.tuple hq
    obtain ⟨u, hu, ru⟩ := rv.get hx
    have hel : e < s.heap.objs.size := Heap.lt_size he
    have hil : it < s.heap.objs.size := by obtain ⟨_, q, _⟩ := hit; exact Heap.lt_size q
    have hlt : i < its.toArray.size := by
      have := List.getElem?_eq_some_iff.mp hu
      obtain ⟨l, _⟩ := this
      simpa using l
    refine wpAny_pyNext_enum_itemD (Draws.tuple (show X.A.in1.handled = none from I.ok.hd hc) it a hai its.toArray) he ⟨hit, p⟩ hlt hne (by simp [hne, hea]) fun x' h' tk hx' ho hst hT hsz hk => ?_
    have ex : x' = u := by
      have q : its.toArray[i]? = some x' := hx'
      have q2 : its[i]? = some x' := by simpa using q
      rw [hu] at q2
      exact (Option.some.inj q2).symm
    subst ex
    refine ⟨_, rfl, wpAny_letOwnedTupleGo_enum (s := { s with heap := h', toks := tk + 1 }) ho fun h'' he' sb => ?_⟩
    have hT2 : h''.get? s.heap.objs.size = some { cls := .type "tuple", data := .seq #[.int i tk, x'] } := (sb.2 _ (Nat.ne_of_gt hel)).trans hT
    have new : ObjOk X.prog X.w (upd H s.heap.objs.size (.tup [.int (i : Nat), x])) h'' s.heap.objs.size (.tup [.int (i : Nat), x]) :=
      ⟨by show 2 ≤ sizeLine; decide, [.int i tk, x'], .cons ⟨_, rfl⟩ (.cons ru .nil), ⟨_, hT2, rfl, _, rfl⟩⟩
    have I1 : Inv X pins σ (upd H s.heap.objs.size (.tup [.int (i : Nat), x])) { s with heap := h'', toks := tk + 1 } :=
      I.turnedNew (ch := [e, it]) (fun b ob hb q => (sb.2 b (fun z => hb (by simp [z]))).trans (hk b ob (fun z => hb (by simp [z])) (fun z => hb (by simp [z])) q)) hf (Nat.le_refl _) new
    refine ⟨.ref s.heap.objs.size, _, I1, rfl, ⟨_, x, rfl, I.hok.fresh (Nat.le_refl _), rfl, fun ys hy => by rw [I.tuple_inj hy hq]; exact hx⟩, ⟨⟨x', ?_⟩, hst.1.at fun o q => (sb.2 it (Ne.symm hne)).trans q⟩, fun b hb => ?_⟩
    · have e1 : ((i + 1 : Nat) : Int) = (i : Int) + 1 := by omega
      rw [e1]; exact he'
    · have hb' : b < s.heap.objs.size := by
        have e' : b = e ∨ b = it := by simpa using hb
        rcases e' with z | z
        · rw [z]; exact hel
        · rw [z]; exact hil
      rw [upd_ne (Nat.ne_of_lt hb')]
      exact (hf b hb).1
  done := by
    intro X hP hw hK hc i pins s σ H E I hf st hg
    subst hP hw hK
    obtain ⟨⟨old, he⟩, hit⟩ := st
    obtain ⟨xs, hq, hx⟩ := hg
    obtain ⟨its, rv, p, hz⟩ := I.tuple hq
    obtain ⟨f0, f1, f2, f3, f4, f5⟩ := hf it (by simp)
    have hl := rv.length
    have hn : its.toArray.size = i := by simp; omega
    refine wpAny_pyNext_enum_endD (Draws.tuple (show X.A.in1.handled = none from I.ok.hd hc) it a hai its.toArray) he ?_ fun h' eb => ⟨rfl, I.turned (t' := s.toks) (fun b o hb q => eb b o hb q) f0 f1 f3 f4 f5⟩
    rw [hn]
    exact ⟨hit, p⟩
  self := fun A i s Q E st h => let ⟨⟨_, he⟩, _⟩ := st; wpAny_pyIter_enum he h
def iEnumT (K : PySem.W.Frag) (ta : TA) : TI := fun σ H R => ta σ H fun vs H1 => ∃ a xs, vs = [.ref a] ∧ SqT K H1 a xs ∧ R (IteT K a) H1
theorem pi_enumT {X : Cx} {e : Expr} {ta : TA} {p pos tpos : Pos} {elts : List Expr} {kk : Nat} (hg : Gl X "enumerate") (hm : X.mg "enumerate" = none) (ha : PA X [e] ta) (hs : starEach [e] X.env = [(false, eval e X.env)] := by rfl) :
    PI X (.Tuple elts kk tpos) (.Call (.Name "enumerate" p) [e] [] pos) (iEnumT X.K ta) := by
  refine ⟨fun pins s σ H R I h => ?_⟩
  refine Call_ (ld_blt I hg hm boot_enumerate (PyProof.Rows.callWith_type1 (thn (ha.run pos pins s σ H _ I h) fun us s1 ⟨vs, H1, I1, r1, q1⟩ => ?_) hs rfl))
  obtain ⟨a, xs, ex, hq, q⟩ := q1
  subst ex
  cases r1 with
  | cons r rr =>
    cases rr
    cases r
    obtain ⟨its, rv, p', hz⟩ := I1.tuple hq
    have hal : a < s1.heap.objs.size := p'.lt
    refine enum_begins1 (begins_tuple a its.toArray) p' fun h' he hit hsz hk => wpAny_pyIter_enum he ?_
    have I2 : Inv X pins σ H1 { s1 with heap := h' } := I1.kept (t' := s1.toks) hk
    refine ⟨s1.heap.objs.size + 1, [s1.heap.objs.size + 1, s1.heap.objs.size], _, _, H1, rfl, I2, turn_enumT (a := a) (e := s1.heap.objs.size + 1) (it := s1.heap.objs.size) (Nat.ne_of_gt (Nat.lt_succ_of_lt hal)) (Nat.ne_of_lt hal) (Nat.succ_ne_self _), ⟨⟨.none, he⟩, ⟨_, hit, rfl, rfl⟩⟩, fun b hb => ?_, q⟩
    have e' : b = s1.heap.objs.size + 1 ∨ b = s1.heap.objs.size := by simpa using hb
    have hle : s1.heap.objs.size ≤ b := by
      rcases e' with z | z
      · rw [z]; exact Nat.le_add_right _ _
      · rw [z]; exact Nat.le_refl _
    exact I1.fpOk hle (I1.hok.fresh hle)
/-- a loop over enumerate of a tuple -/
theorem for_enumT {K : PySem.W.Frag} {a : Addr} {xs : List V} {g : TG} {tb : TS} {D : Ends} {σ : L2.St} {H : Hp} (Pv : Nat → L2.St → Hp → Prop) (h0 : Pv 0 σ H) (hq : ∀ i σ H, Pv i σ H → SqT K H a xs)
    (hs : ∀ (i : Nat) (x : V) (T : Addr) (σ : L2.St) (H : Hp), xs[i]? = some x → Pv i σ H → H T = none → g (.ref T) σ (upd H T (.tup [.int (i : Nat), x])) fun σ2 H2 => tb { D with nx := Pv (i + 1), ct := Pv (i + 1), bk := D.nx } σ2 H2) (hd : ∀ σ H, Pv xs.length σ H → D.nx σ H) :
    ∃ W : Nat → Nat → L2.St → Hp → Prop, (∃ m, W 0 m σ H) ∧ ∀ i m σ H, W i m σ H →
      ((IteT K a).stop i H ∧ D.nx σ H) ∨ ((IteT K a).go i H ∧ ∃ N : L2.St → Hp → Prop, (∀ σ' H', N σ' H' → ∃ m', m' < m ∧ W (i + 1) m' σ' H') ∧ ∀ v H', (IteT K a).yld i H v H' → g v σ H' fun σ2 H2 => tb { D with nx := N, ct := N, bk := D.nx } σ2 H2) := by
  refine ⟨fun i m σ H => m = xs.length - i ∧ i ≤ xs.length ∧ Pv i σ H, ⟨xs.length, rfl, Nat.zero_le _, h0⟩, ?_⟩
  rintro i m σ H ⟨rfl, hi, p⟩
  have qx := hq i σ H p
  by_cases hlt : i < xs.length
  · have hx : xs[i]? = some xs[i] := List.getElem?_eq_getElem hlt
    refine .inr ⟨⟨xs, _, qx, hx⟩, Pv (i + 1), fun σ' H' p' => ⟨xs.length - (i + 1), by omega, rfl, hlt, p'⟩, fun v H' y => ?_⟩
    obtain ⟨T, x', rfl, hT, rfl, f1⟩ := y
    exact hs i x' T σ H (f1 xs qx) p hT
  · have e : i = xs.length := by omega
    subst e
    exact .inl ⟨⟨xs, qx, rfl⟩, hd σ H p⟩
end K4
namespace K4
open PySem PySem.Spec PyProof.Rows L2
theorem pick_at {its : List Value} {i : Nat} {u x : Value} (h : its[i]? = some u) (q : its.toArray[i]? = some x) : x = u := by
  have q2 : its[i]? = some x := by simpa using q
  rw [h] at q2
  exact (Option.some.inj q2).symm
theorem lt_at {its : List Value} {i : Nat} {u : Value} (h : its[i]? = some u) : i < its.toArray.size := by
  obtain ⟨l, _⟩ := List.getElem?_eq_some_iff.mp h
  simpa using l
/-! ### zip of three tuples of one length -/
def Itz3 (K : PySem.W.Frag) (a b c : Addr) : It :=
  ⟨fun i H => ∃ (xs ys zs : List V) (x y z : V), SqT K H a xs ∧ SqT K H b ys ∧ SqT K H c zs ∧ xs[i]? = some x ∧ ys[i]? = some y ∧ zs[i]? = some z,
    fun i H v H' => ∃ T x y z, v = .ref T ∧ H T = none ∧ H' = upd H T (.tup [x, y, z]) ∧ (∀ xs, SqT K H a xs → xs[i]? = some x) ∧ (∀ ys, SqT K H b ys → ys[i]? = some y) ∧ ∀ zs, SqT K H c zs → zs[i]? = some z,
    fun i H => ∃ xs ys zs : List V, SqT K H a xs ∧ SqT K H b ys ∧ SqT K H c zs ∧ xs.length = i ∧ ys.length = i ∧ zs.length = i⟩
theorem turn_zip3 {P : Program} {w : World} {K : PySem.W.Frag} {elts : List Expr} {kk : Nat} {tpos : Pos} {a b c z TI TO i1 i2 i3 : Addr} (S : ZipSep3 z TI TO i1 i2 i3 [i1, a] [i2, b] [i3, c]) (ha : a ≠ i1) (hb : b ≠ i2) (hc' : c ≠ i3) :
    Turn P w K (.Tuple elts kk tpos) (Itz3 K a b c) [z, TI, TO, i1, i2, i3] z (fun i h => IsZip h z TI TO .none ∧ IsTupOf3 h TI (.ref i1) (.ref i2) (.ref i3) ∧ (∃ x y q, IsTupOf3 h TO x y q) ∧ h.IsTupleIter i1 a i ∧ h.IsTupleIter i2 b i ∧ h.IsTupleIter i3 c i) where
  mem := by simp
  obj := fun i h st d hd => by
    obtain ⟨hz, hTI, ⟨x, y, q, hTO⟩, ⟨o1, e1, _, d1⟩, ⟨o2, e2, _, d2⟩, ⟨o3, e3, _, d3⟩⟩ := st
    have e' : d = z ∨ d = TI ∨ d = TO ∨ d = i1 ∨ d = i2 ∨ d = i3 := by simpa using hd
    rcases e' with q | q | q | q | q | q
    · rw [q]; exact ⟨_, hz, fun v q => nomatch q⟩
    · rw [q]; exact ⟨_, hTI, fun v q => nomatch q⟩
    · rw [q]; exact ⟨_, hTO, fun v q => nomatch q⟩
    · rw [q]; exact ⟨o1, e1, fun v q => by rw [d1] at q; cases q⟩
    · rw [q]; exact ⟨o2, e2, fun v q => by rw [d2] at q; cases q⟩
    · rw [q]; exact ⟨o3, e3, fun v q => by rw [d3] at q; cases q⟩
  keep := fun i h h' st k => by
    obtain ⟨hz, hTI, ⟨x, y, q, hTO⟩, h1, h2, h3⟩ := st
    exact ⟨k z (by simp) _ hz, k TI (by simp) _ hTI, ⟨x, y, q, k TO (by simp) _ hTO⟩, h1.at fun o q => k i1 (by simp) o q, h2.at fun o q => k i2 (by simp) o q, h3.at fun o q => k i3 (by simp) o q⟩
  item := by
    intro X hP hw hK hc i pins s σ H E I hf st hg
    subst hP hw hK
    obtain ⟨hz, hTI, ⟨x0, y0, z0, hTO⟩, h1, h2, h3⟩ := st
    obtain ⟨xs, ys, zs, x, y, zz, hqx, hqy, hqz, hx, hy, hzz⟩ := hg
    obtain ⟨its, rv, p, _⟩ := I.tuple hqx
    obtain ⟨its2, rv2, p2, _⟩ := I.tuple hqy
    obtain ⟨its3, rv3, p3, _⟩ := I.tuple hqz
    obtain ⟨u, hu, ru⟩ := rv.get hx
    obtain ⟨u2, hu2, ru2⟩ := rv2.get hy
    obtain ⟨u3, hu3, ru3⟩ := rv3.get hzz
    have hzl : z < s.heap.objs.size := Heap.lt_size hz
    have hA : X.A.in1.handled = none := I.ok.hd hc
    refine wpAny_pyNext_zipD3_item S (Draws.tuple hA i1 a ha its.toArray) (Draws.tuple hA i2 b hb its2.toArray) (Draws.tuple hA i3 c hc' its3.toArray) hz hTI hTO ⟨h1, p⟩ ⟨h2, p2⟩ ⟨h3, p3⟩ (lt_at hu) (lt_at hu2) (lt_at hu3)
      fun x1 x2 x3 h' tk q1 q2 q3 z' TO' d1 d2 d3 hT hsz hk => ?_
    obtain rfl := pick_at hu q1
    obtain rfl := pick_at hu2 q2
    obtain rfl := pick_at hu3 q3
    refine ⟨_, rfl, wpAny_letOwnedTupleGo_zip (s := { s with heap := h', toks := tk }) z' fun h'' z'' sb => ?_⟩
    have hT2 : h''.get? s.heap.objs.size = some { cls := .type "tuple", data := .seq #[x1, x2, x3] } := (sb.2 _ (Nat.ne_of_gt hzl)).trans hT
    have new : ObjOk X.prog X.w (upd H s.heap.objs.size (.tup [x, y, zz])) h'' s.heap.objs.size (.tup [x, y, zz]) :=
      ⟨by show 3 ≤ sizeLine; decide, [x1, x2, x3], .cons ru (.cons ru2 (.cons ru3 .nil)), ⟨_, hT2, rfl, _, rfl⟩⟩
    have I1 : Inv X pins σ (upd H s.heap.objs.size (.tup [x, y, zz])) { s with heap := h'', toks := tk } :=
      I.turnedNew (t' := tk) (ch := [z, TI, TO, i1, i2, i3]) (fun c o hb q => (sb.2 c (fun q' => hb (by simp [q']))).trans (hk c o (fun q' => hb (by simp [q'])) (fun q' => hb (by simp [q'])) (fun q' => hb (by simp [q'])) (fun q' => hb (by simp [q'])) (fun q' => hb (by simp [q'])) q)) hf (Nat.le_refl _) new
    have ne1 : i1 ≠ z := Ne.symm S.zi1
    have ne2 : i2 ≠ z := Ne.symm S.zi2
    have ne3 : i3 ≠ z := Ne.symm S.zi3
    refine ⟨.ref s.heap.objs.size, _, I1, rfl, ⟨_, x, y, zz, rfl, I.hok.fresh (Nat.le_refl _), rfl, fun l hl => by rw [I.tuple_inj hl hqx]; exact hx, fun l hl => by rw [I.tuple_inj hl hqy]; exact hy, fun l hl => by rw [I.tuple_inj hl hqz]; exact hzz⟩, ⟨z'', ?_, ⟨x1, x2, x3, ?_⟩, ?_, ?_, ?_⟩, fun c hcm => ?_⟩
    · exact (sb.2 _ S.TIz).trans (hk _ _ S.TIz S.TITO S.TIi1 S.TIi2 S.TIi3 hTI)
    · exact (sb.2 _ S.TOz).trans TO'
    · exact d1.1.at fun o q => (sb.2 _ ne1).trans q
    · exact d2.1.at fun o q => (sb.2 _ ne2).trans q
    · exact d3.1.at fun o q => (sb.2 _ ne3).trans q
    · have hlt : c < s.heap.objs.size := by
        have e' : c = z ∨ c = TI ∨ c = TO ∨ c = i1 ∨ c = i2 ∨ c = i3 := by simpa using hcm
        rcases e' with q | q | q | q | q | q
        · rw [q]; exact hzl
        · rw [q]; exact Heap.lt_size hTI
        · rw [q]; exact Heap.lt_size hTO
        · rw [q]; obtain ⟨_, e1, _⟩ := h1; exact Heap.lt_size e1
        · rw [q]; obtain ⟨_, e2, _⟩ := h2; exact Heap.lt_size e2
        · rw [q]; obtain ⟨_, e3, _⟩ := h3; exact Heap.lt_size e3
      rw [upd_ne (Nat.ne_of_lt hlt)]
      exact (hf c hcm).1
  done := by
    intro X hP hw hK hc i pins s σ H E I hf st hg
    subst hP hw hK
    obtain ⟨hz, hTI, ⟨x0, y0, z0, hTO⟩, h1, h2, h3⟩ := st
    obtain ⟨xs, ys, zs, hqx, hqy, hqz, l1, l2, l3⟩ := hg
    obtain ⟨its, rv, p, _⟩ := I.tuple hqx
    obtain ⟨its2, rv2, p2, _⟩ := I.tuple hqy
    obtain ⟨its3, rv3, p3, _⟩ := I.tuple hqz
    have m1 := rv.length
    have m2 := rv2.length
    have m3 := rv3.length
    have hA : X.A.in1.handled = none := I.ok.hd hc
    refine wpAny_pyNext_zipD3_end S (Draws.tuple hA i1 a ha its.toArray) (Draws.tuple hA i2 b hb its2.toArray) (Draws.tuple hA i3 c hc' its3.toArray) hz hTI hTO ⟨h1, p⟩ ⟨h2, p2⟩ ⟨h3, p3⟩ (by simp; omega) (by simp; omega) (by simp; omega) (.inl (by simp; omega))
      fun h' tk hk => ⟨rfl, I.turnedL (t' := tk) (ch := [z, TI, TO, i1, i2, i3]) (fun c o hb q =>
      hk c o (fun q' => hb (by simp [q'])) (fun q' => hb (by simp [q'])) (fun q' => hb (by simp [q'])) (fun q' => hb (by simp [q'])) (fun q' => hb (by simp [q'])) q) hf⟩
  self := fun A i s Q E st h => wpAny_pyIter_zip st.1 h
def iZip3 (K : PySem.W.Frag) (ta : TA) : TI := fun σ H R => ta σ H fun vs H1 => ∃ a b c xs ys zs, vs = [.ref a, .ref b, .ref c] ∧ SqT K H1 a xs ∧ SqT K H1 b ys ∧ SqT K H1 c zs ∧ R (Itz3 K a b c) H1
theorem fpNew {X : Cx} {pins : List (Addr × Obj)} {σ : L2.St} {H : Hp} {s : Shared} (I : Inv X pins σ H s) {l : List Addr} (h : ∀ b ∈ l, s.heap.objs.size ≤ b) : ∀ b ∈ l, FpOk X pins H b := fun b hb => I.fpOk (h b hb) (I.hok.fresh (h b hb))
theorem pi_zip3 {X : Cx} {e e2 e3 : Expr} {ta : TA} {p pos tpos : Pos} {elts : List Expr} {kk : Nat} (hg : Gl X "zip") (hm : X.mg "zip" = none) (ha : PA X [e, e2, e3] ta)
    (hs : starEach [e, e2, e3] X.env = (false, eval e X.env) :: starEach [e2, e3] X.env := by rfl) (hpl : (backTo pos (starEach [e2, e3] X.env)).any (·.1) = false := by rfl) :
    PI X (.Tuple elts kk tpos) (.Call (.Name "zip" p) [e, e2, e3] [] pos) (iZip3 X.K ta) := by
  refine ⟨fun pins s σ H R I h => ?_⟩
  refine Call_ (ld_blt I hg hm PyProof.Rows.boot_zip (PyProof.Rows.callWith_type1 (thn (ha.run pos pins s σ H _ I h) fun us s1 ⟨vs, H1, I1, r1, q1⟩ => ?_) hs hpl))
  obtain ⟨a, b, c, xs, ys, zs, ex, hqx, hqy, hqz, q⟩ := q1
  subst ex
  cases r1 with
  | cons r rr =>
    cases rr with
    | cons r' rr =>
      cases rr with
      | cons r'' rr =>
        cases rr
        cases r
        cases r'
        cases r''
        obtain ⟨its, rv, p1, _⟩ := I1.tuple hqx
        obtain ⟨its2, rv2, p2, _⟩ := I1.tuple hqy
        obtain ⟨its3, rv3, p3, _⟩ := I1.tuple hqz
        have la := p1.lt
        have lb := p2.lt
        have lc := p3.lt
        refine zip_begins3 (begins_tuple a its.toArray) (begins_tuple b its2.toArray) (begins_tuple c its3.toArray) p1 p2 p3 fun h' hz hTI hTO h1 h2 h3 hsz hk => wpAny_pyIter_zip hz ?_
        have I2 : Inv X pins σ H1 { s1 with heap := h' } := I1.kept (t' := s1.toks) hk
        refine ⟨s1.heap.objs.size + 5, [s1.heap.objs.size + 5, s1.heap.objs.size + 3, s1.heap.objs.size + 4, s1.heap.objs.size, s1.heap.objs.size + 1, s1.heap.objs.size + 2], _, _, H1, rfl, I2,
          turn_zip3 (a := a) (b := b) (c := c) (zip_sep3 (N := s1.heap.objs.size) (fp1 := [a]) (fp2 := [b]) (fp3 := [c]) (fun d hd => by rw [List.mem_singleton.mp hd]; exact la) (fun d hd => by rw [List.mem_singleton.mp hd]; exact lb) (fun d hd => by rw [List.mem_singleton.mp hd]; exact lc)) (Nat.ne_of_lt la) (Nat.ne_of_lt (Nat.lt_succ_of_lt lb)) (Nat.ne_of_lt (Nat.lt_succ_of_lt (Nat.lt_succ_of_lt lc))), ⟨hz, hTI, ⟨_, _, _, hTO⟩, ⟨_, h1, rfl, rfl⟩, ⟨_, h2, rfl, rfl⟩, ⟨_, h3, rfl, rfl⟩⟩, fpNew I1 fun d hd => ?_, q⟩
        have e' : d = s1.heap.objs.size + 5 ∨ d = s1.heap.objs.size + 3 ∨ d = s1.heap.objs.size + 4 ∨ d = s1.heap.objs.size ∨ d = s1.heap.objs.size + 1 ∨ d = s1.heap.objs.size + 2 := by simpa using hd
        rcases e' with z | z | z | z | z | z
        · rw [z]; exact Nat.le_add_right _ _
        · rw [z]; exact Nat.le_add_right _ _
        · rw [z]; exact Nat.le_add_right _ _
        · rw [z]; exact Nat.le_refl _
        · rw [z]; exact Nat.le_add_right _ _
        · rw [z]; exact Nat.le_add_right _ _
theorem for_zip3 {K : PySem.W.Frag} {a b c : Addr} {xs ys zs : List V} {g : TG} {tb : TS} {D : Ends} {σ : L2.St} {H : Hp} (hl : ys.length = xs.length) (hl2 : zs.length = xs.length) (Pv : Nat → L2.St → Hp → Prop) (h0 : Pv 0 σ H) (hq : ∀ i σ H, Pv i σ H → SqT K H a xs ∧ SqT K H b ys ∧ SqT K H c zs)
    (hs : ∀ (i : Nat) (x y z : V) (T : Addr) (σ : L2.St) (H : Hp), xs[i]? = some x → ys[i]? = some y → zs[i]? = some z → Pv i σ H → H T = none → g (.ref T) σ (upd H T (.tup [x, y, z])) fun σ2 H2 => tb { D with nx := Pv (i + 1), ct := Pv (i + 1), bk := D.nx } σ2 H2) (hd : ∀ σ H, Pv xs.length σ H → D.nx σ H) :
    ∃ W : Nat → Nat → L2.St → Hp → Prop, (∃ m, W 0 m σ H) ∧ ∀ i m σ H, W i m σ H →
      ((Itz3 K a b c).stop i H ∧ D.nx σ H) ∨ ((Itz3 K a b c).go i H ∧ ∃ N : L2.St → Hp → Prop, (∀ σ' H', N σ' H' → ∃ m', m' < m ∧ W (i + 1) m' σ' H') ∧ ∀ v H', (Itz3 K a b c).yld i H v H' → g v σ H' fun σ2 H2 => tb { D with nx := N, ct := N, bk := D.nx } σ2 H2) := by
  refine ⟨fun i m σ H => m = xs.length - i ∧ i ≤ xs.length ∧ Pv i σ H, ⟨xs.length, rfl, Nat.zero_le _, h0⟩, ?_⟩
  rintro i m σ H ⟨rfl, hi, p⟩
  obtain ⟨qx, qy, qz⟩ := hq i σ H p
  by_cases hlt : i < xs.length
  · have hx : xs[i]? = some xs[i] := List.getElem?_eq_getElem hlt
    have hlt2 : i < ys.length := by omega
    have hlt3 : i < zs.length := by omega
    have hy : ys[i]? = some ys[i] := List.getElem?_eq_getElem hlt2
    have hz : zs[i]? = some zs[i] := List.getElem?_eq_getElem hlt3
    refine .inr ⟨⟨xs, ys, zs, _, _, _, qx, qy, qz, hx, hy, hz⟩, Pv (i + 1), fun σ' H' p' => ⟨xs.length - (i + 1), by omega, rfl, hlt, p'⟩, fun v H' y => ?_⟩
    obtain ⟨T, x', y', z', rfl, hT, rfl, f1, f2, f3⟩ := y
    exact hs i x' y' z' T σ H (f1 xs qx) (f2 ys qy) (f3 zs qz) p hT
  · have e : i = xs.length := by omega
    subst e
    exact .inl ⟨⟨xs, ys, zs, qx, qy, qz, rfl, hl, hl2⟩, hd σ H p⟩
end K4
namespace K4
open PySem PySem.Spec PyProof.Rows L2
/-! ### zip of a text and a list of one length -/
def ItzS (K : PySem.W.Frag) (sx : Str) (b : Addr) : It :=
  ⟨fun i H => ∃ (ys : List V) (c : Nat) (y : V), SqL K H b ys ∧ sx.cps[i]? = some c ∧ ys[i]? = some y,
    fun i H v H' => ∃ T c y, v = .ref T ∧ H T = none ∧ H' = upd H T (.tup [.str ⟨#[c]⟩, y]) ∧ sx.cps[i]? = some c ∧ ∀ ys, SqL K H b ys → ys[i]? = some y,
    fun i H => ∃ ys : List V, SqL K H b ys ∧ sx.cps.size = i ∧ ys.length = i⟩
theorem turn_zipS {P : Program} {w : World} {K : PySem.W.Frag} {elts : List Expr} {kk : Nat} {tpos : Pos} {sx : Str} {tx : Tok} {b z TI TO i1 i2 : Addr} (S : ZipSep2 z TI TO i1 i2 [i1] [i2, b]) (hb : b ≠ i2) :
    Turn P w K (.Tuple elts kk tpos) (ItzS K sx b) [z, TI, TO, i1, i2] z (fun i h => IsZip h z TI TO .none ∧ IsTupOf2 h TI (.ref i1) (.ref i2) ∧ (∃ x y, IsTupOf2 h TO x y) ∧ h.IsStrIter i1 (strIterType sx) sx tx i ∧ h.IsListIter i2 b i) where
  mem := by simp
  obj := fun i h st d hd => by
    obtain ⟨hz, hTI, ⟨x, y, hTO⟩, ⟨o1, e1, _, d1⟩, ⟨o2, e2, _, d2⟩⟩ := st
    have e' : d = z ∨ d = TI ∨ d = TO ∨ d = i1 ∨ d = i2 := by simpa using hd
    rcases e' with q | q | q | q | q
    · rw [q]; exact ⟨_, hz, fun v q => nomatch q⟩
    · rw [q]; exact ⟨_, hTI, fun v q => nomatch q⟩
    · rw [q]; exact ⟨_, hTO, fun v q => nomatch q⟩
    · rw [q]; exact ⟨o1, e1, fun v q => by rw [d1] at q; cases q⟩
    · rw [q]; exact ⟨o2, e2, fun v q => by rw [d2] at q; cases q⟩
  keep := fun i h h' st k => by
    obtain ⟨hz, hTI, ⟨x, y, hTO⟩, ⟨o1, e1, r1⟩, h2⟩ := st
    exact ⟨k z (by simp) _ hz, k TI (by simp) _ hTI, ⟨x, y, k TO (by simp) _ hTO⟩, ⟨o1, k i1 (by simp) _ e1, r1⟩, h2.at fun o q => k i2 (by simp) o q⟩
  item := by
    intro X hP hw hK hc i pins s σ H E I hf st hg
    subst hP hw hK
    obtain ⟨hz, hTI, ⟨x0, y0, hTO⟩, h1, h2⟩ := st
    obtain ⟨ys, cx, y, hqy, hcx, hy⟩ := hg
    obtain ⟨its2, rv2, p2, _⟩ := I.list hqy
    obtain ⟨u2, hu2, ru2⟩ := rv2.get hy
    have hzl : z < s.heap.objs.size := Heap.lt_size hz
    have hA : X.A.in1.handled = none := I.ok.hd hc
    have hlt1 : i < sx.cps.size := by
      obtain ⟨l, _⟩ := Array.getElem?_eq_some_iff.mp hcx
      exact l
    have hlt2 : i < its2.toArray.size := by
      obtain ⟨l, _⟩ := List.getElem?_eq_some_iff.mp hu2
      simpa using l
    refine wpAny_pyNext_zipD2_item S (Draws.text hA i1 sx tx) (Draws.list hA i2 b hb its2.toArray) hz hTI hTO h1 ⟨h2, p2.isList⟩ hlt1 hlt2
      fun x1 x2 h' tk q1 q2 z' TO' d1 d2 hT hsz hk => ?_
    obtain ⟨c', t', hc', rfl⟩ := q1
    obtain rfl : c' = cx := by rw [hcx] at hc'; exact (Option.some.inj hc').symm
    have ex2 : x2 = u2 := by
      have q3 : its2[i]? = some x2 := by simpa using q2
      rw [hu2] at q3
      exact (Option.some.inj q3).symm
    subst ex2
    refine ⟨_, rfl, wpAny_letOwnedTupleGo_zip (s := { s with heap := h', toks := tk }) z' fun h'' z'' sb => ?_⟩
    have hT2 : h''.get? s.heap.objs.size = some { cls := .type "tuple", data := .seq #[.str ⟨#[c']⟩ t', x2] } := (sb.2 _ (Nat.ne_of_gt hzl)).trans hT
    have new : ObjOk X.prog X.w (upd H s.heap.objs.size (.tup [.str ⟨#[c']⟩, y])) h'' s.heap.objs.size (.tup [.str ⟨#[c']⟩, y]) :=
      ⟨by show 2 ≤ sizeLine; decide, [.str ⟨#[c']⟩ t', x2], .cons ⟨_, rfl⟩ (.cons ru2 .nil), ⟨_, hT2, rfl, _, rfl⟩⟩
    have I1 : Inv X pins σ (upd H s.heap.objs.size (.tup [.str ⟨#[c']⟩, y])) { s with heap := h'', toks := tk } :=
      I.turnedNew (t' := tk) (ch := [z, TI, TO, i1, i2]) (fun c o hb q => (sb.2 c (fun q' => hb (by simp [q']))).trans (hk c o (fun q' => hb (by simp [q'])) (fun q' => hb (by simp [q'])) (fun q' => hb (by simp [q'])) (fun q' => hb (by simp [q'])) q)) hf (Nat.le_refl _) new
    have ne1 : i1 ≠ z := Ne.symm S.zi1
    have ne2 : i2 ≠ z := Ne.symm S.zi2
    refine ⟨.ref s.heap.objs.size, _, I1, rfl, ⟨_, c', y, rfl, I.hok.fresh (Nat.le_refl _), rfl, hcx, fun l hl => by rw [I.list_inj hl hqy]; exact hy⟩, ⟨z'', ?_, ⟨.str ⟨#[c']⟩ t', x2, ?_⟩, ?_, ?_⟩, fun c hcm => ?_⟩
    · exact (sb.2 _ S.TIz).trans (hk _ _ S.TIz S.TITO S.TIi1 S.TIi2 hTI)
    · exact (sb.2 _ S.TOz).trans TO'
    · obtain ⟨o1, e1, r1⟩ := d1
      exact ⟨o1, (sb.2 _ ne1).trans e1, r1⟩
    · exact d2.1.at fun o q => (sb.2 _ ne2).trans q
    · have hlt : c < s.heap.objs.size := by
        have e' : c = z ∨ c = TI ∨ c = TO ∨ c = i1 ∨ c = i2 := by simpa using hcm
        rcases e' with q | q | q | q | q
        · rw [q]; exact hzl
        · rw [q]; exact Heap.lt_size hTI
        · rw [q]; exact Heap.lt_size hTO
        · rw [q]; obtain ⟨_, e1, _⟩ := h1; exact Heap.lt_size e1
        · rw [q]; obtain ⟨_, e2, _⟩ := h2; exact Heap.lt_size e2
      rw [upd_ne (Nat.ne_of_lt hlt)]
      exact (hf c hcm).1
  done := by
    intro X hP hw hK hc i pins s σ H E I hf st hg
    subst hP hw hK
    obtain ⟨hz, hTI, ⟨x0, y0, hTO⟩, h1, h2⟩ := st
    obtain ⟨ys, hqy, l1, l2⟩ := hg
    obtain ⟨its2, rv2, p2, _⟩ := I.list hqy
    have m2 := rv2.length
    have hA : X.A.in1.handled = none := I.ok.hd hc
    refine wpAny_pyNext_zipD2_end S (Draws.text hA i1 sx tx) (Draws.list hA i2 b hb its2.toArray) hz hTI hTO h1 ⟨h2, p2.isList⟩ (by omega) (by simp; omega) (.inl (by omega))
      fun h' tk hk => ⟨rfl, I.turnedL (t' := tk) (ch := [z, TI, TO, i1, i2]) (fun c o hb q =>
      hk c o (fun q' => hb (by simp [q'])) (fun q' => hb (by simp [q'])) (fun q' => hb (by simp [q'])) (fun q' => hb (by simp [q'])) q) hf⟩
  self := fun A i s Q E st h => wpAny_pyIter_zip st.1 h
def iZipS (K : PySem.W.Frag) (ta : TA) : TI := fun σ H R => ta σ H fun vs H1 => ∃ sx b ys, vs = [.str sx, .ref b] ∧ SqL K H1 b ys ∧ R (ItzS K sx b) H1
theorem pi_zipS {X : Cx} {e e2 : Expr} {ta : TA} {p pos tpos : Pos} {elts : List Expr} {kk : Nat} (hg : Gl X "zip") (hm : X.mg "zip" = none) (ha : PA X [e, e2] ta)
    (hs : starEach [e, e2] X.env = (false, eval e X.env) :: starEach [e2] X.env := by rfl) (hpl : (backTo pos (starEach [e2] X.env)).any (·.1) = false := by rfl) :
    PI X (.Tuple elts kk tpos) (.Call (.Name "zip" p) [e, e2] [] pos) (iZipS X.K ta) := by
  refine ⟨fun pins s σ H R I h => ?_⟩
  refine Call_ (ld_blt I hg hm PyProof.Rows.boot_zip (PyProof.Rows.callWith_type1 (thn (ha.run pos pins s σ H _ I h) fun us s1 ⟨vs, H1, I1, r1, q1⟩ => ?_) hs hpl))
  obtain ⟨sx, b, ys, ex, hqy, q⟩ := q1
  subst ex
  cases r1 with
  | cons r rr =>
    cases rr with
    | cons r' rr =>
      cases rr
      obtain ⟨tx, rfl⟩ := r
      cases r'
      obtain ⟨its2, rv2, p2, _⟩ := I1.list hqy
      have lb := p2.lt
      refine zip_begins2 (begins_text sx tx) (begins_list b its2.toArray) trivial p2.isList fun h' hz hTI hTO h1 h2 hsz hk => wpAny_pyIter_zip hz ?_
      have I2 : Inv X pins σ H1 { s1 with heap := h' } := I1.kept (t' := s1.toks) hk
      refine ⟨s1.heap.objs.size + 4, [s1.heap.objs.size + 4, s1.heap.objs.size + 2, s1.heap.objs.size + 3, s1.heap.objs.size, s1.heap.objs.size + 1], _, _, H1, rfl, I2,
        turn_zipS (sx := sx) (tx := tx) (b := b) (zip_sep2 (N := s1.heap.objs.size) (fp1 := []) (fp2 := [b]) (fun d hd => nomatch hd) (fun d hd => by rw [List.mem_singleton.mp hd]; exact lb)) (Nat.ne_of_lt (Nat.lt_succ_of_lt lb)), ⟨hz, hTI, ⟨_, _, hTO⟩, ⟨_, h1, rfl, rfl⟩, ⟨_, h2, rfl, rfl⟩⟩, fun d hd => I1.fpOk ?_ (I1.hok.fresh ?_), q⟩
      all_goals
        have e' : d = s1.heap.objs.size + 4 ∨ d = s1.heap.objs.size + 2 ∨ d = s1.heap.objs.size + 3 ∨ d = s1.heap.objs.size ∨ d = s1.heap.objs.size + 1 := by simpa using hd
        rcases e' with z | z | z | z | z
        · rw [z]; exact Nat.le_add_right _ _
        · rw [z]; exact Nat.le_add_right _ _
        · rw [z]; exact Nat.le_add_right _ _
        · rw [z]; exact Nat.le_refl _
        · rw [z]; exact Nat.le_add_right _ _
end K4
namespace K4
open PySem PySem.Spec PyProof.Rows L2
/-! ### enumerate(zip(t, u)), t and u tuples -/
theorem pick_at2 {its : List Value} {i : Nat} {u x : Value} (h : its[i]? = some u) (q : its.toArray[i]? = some x) : x = u := by
  have q2 : its[i]? = some x := by simpa using q
  rw [h] at q2
  exact (Option.some.inj q2).symm
theorem lt_at2 {its : List Value} {i : Nat} {u : Value} (h : its[i]? = some u) : i < its.toArray.size := by
  obtain ⟨l, _⟩ := List.getElem?_eq_some_iff.mp h
  simpa using l
def ZipIs (h : Heap) (z TI TO : Addr) (f0 : Value) (b : Bool) : Prop := h.get? z = some { cls := .type "zip", dict := none, data := .fields #[f0, .bool b, .bool false, .ref TI, .ref TO], slots := #[] }
def ZipSt (h : Heap) (z TI TO i1 i2 : Addr) : Prop := (∃ f0 b, ZipIs h z TI TO f0 b ∧ (f0 = .none ∨ ∃ T : Nat, f0 = rawInt T)) ∧ IsTupOf2 h TI (.ref i1) (.ref i2) ∧ ∃ x y, IsTupOf2 h TO x y
section
variable {prog : Program} {w : World} {A : Around} {E : Value → Shared → Prop} {s : Shared}
theorem zip_free {z TI TO : Addr} {f0 : Value} {b : Bool} {Q : Bool → Shared → Prop} (hz : ZipIs s.heap z TI TO f0 b) (hf : f0 = .none ∨ ∃ T : Nat, f0 = rawInt T) (h1 : Q true s)
    (h2 : ∀ (T : Nat) h', f0 = rawInt T → ZipIs h' z TI TO f0 true → Heap.SameBut z s.heap h' → Q false { s with heap := h' }) : wpAny (model prog w) A (Builtin.SmallTypes.ownedTupleIsFree (.ref z)) Q E s := by
  unfold Builtin.SmallTypes.ownedTupleIsFree
  rcases hf with rfl | ⟨T, rfl⟩
  · exact wpAny_bind (wpAny_field hz rfl (x := .none) rfl (wpAny_pure h1))
  · refine wpAny_bind (wpAny_field hz rfl (x := rawInt T) rfl ?_)
    show wpAny _ _ (loadIfAlive ((T : Int).toNat) >>= _) _ _ _
    rw [Int.toNat_natCast]
    cases hT : s.heap.get? T with
    | none =>
      have hk : wpAny (model prog w) A (loadIfAlive T) (fun o s' => o = none ∧ s' = s) E s := fun _ _ _ => ⟨hT, rfl⟩
      refine wpAny_bind (thn hk ?_)
      rintro o s' ⟨rfl, rfl⟩
      exact wpAny_pure h1
    | some oT =>
      refine wpAny_bind (PySem.W.kdx_alive hT ?_)
      simp only [Option.isNone_some, Bool.false_eq_true, if_false]
      refine wpAny_bind (wpAny_field hz rfl (x := .bool b) rfl ?_)
      cases b with
      | true =>
        rw [if_neg (show ¬ ((Value.bool true != Value.bool true) = true) from Bool.false_ne_true)]
        exact wpAny_pure (h2 T s.heap rfl hz (Heap.SameBut.refl _ _))
      | false =>
        rw [if_pos (show (Value.bool false != Value.bool true) = true from rfl)]
        exact wpAny_bind (wpAny_setField_rec hz (by simp) fun h₁ hz₁ hs₁ => wpAny_pure (h2 T h₁ rfl hz₁ hs₁))
variable {z TI TO i1 i2 : Addr} {fp1 fp2 : List Addr} {n1 n2 i : Nat} {P1 P2 : Nat → Value → Prop} {St1 St2 : Nat → Heap → Prop}
theorem zipG_item {Q : Value → Shared → Prop} (S : ZipSep2 z TI TO i1 i2 fp1 fp2) (D1 : Draws prog w A i1 fp1 n1 P1 St1) (D2 : Draws prog w A i2 fp2 n2 P2 St2) (hTIf1 : TI ∉ fp1) (hTIf2 : TI ∉ fp2)
    (hz : ZipSt s.heap z TI TO i1 i2) (st1 : St1 i s.heap) (st2 : St2 i s.heap) (hlt1 : i < n1) (hlt2 : i < n2)
    (hQ : ∀ x1 x2 h' tk, P1 i x1 → P2 i x2 → ZipSt h' z TI TO i1 i2 → St1 (i + 1) h' → St2 (i + 1) h' → IsTupOf2 h' s.heap.objs.size x1 x2 → h'.objs.size = s.heap.objs.size + 1 →
      (∀ c o, c ≠ z → c ≠ TO → c ≠ i1 → c ≠ i2 → s.heap.get? c = some o → h'.get? c = some o) → Q (.ref s.heap.objs.size) { s with heap := h', toks := tk }) :
    wpAny (model prog w) A (Builtin.«zip.__next__» ⟨[.ref z], []⟩) (fun fin s' => ∃ v, fin = .done (.ret v) ∧ Q v s') E s := by
  obtain ⟨hp, g, d, tk0, os⟩ := s
  obtain ⟨⟨f0, b, hz, hf⟩, hTI, a1, a2, hTO⟩ := hz
  show wpAny _ _ (field (.ref z) 2 >>= _) _ _ _
  refine wpAny_bind (wpAny_field hz rfl (x := .bool false) rfl ?_)
  show wpAny _ _ (field (.ref z) 3 >>= _) _ _ _
  refine wpAny_bind (wpAny_field hz rfl (x := .ref TI) rfl ?_)
  refine wpAny_bind (wpAny_seqItems hTI rfl ?_)
  show wpAny _ _ (Builtin.SmallTypes.ownedTupleIsFree (.ref z) >>= _) _ _ _
  refine wpAny_bind (zip_free hz hf ?_ fun T g0 eT hz0 hs0 => ?_)
  · -- its own tuple again
    simp only [if_true]
    refine wpAny_bind (wpAny_rule ?_)
    refine wpAny_bind (wpAny_field hz rfl (x := .ref TO) rfl ?_)
    refine wpAny_bind (wpAny_setField_rec hz (by simp) fun g0 hz0 hs0 => ?_)
    replace hz0 : ZipIs g0 z TI TO .ellipsis b := hz0
    replace hs0 : Heap.SameBut z hp g0 := hs0
    refine wpAny_bind ?_
    simp only [List.zipIdx_cons, List.zipIdx_nil, List.forIn_cons, List.forIn_nil]
    refine wpAny_bind (wpAny_bind (wpAny_onRaise ?_))
    show wpAny _ _ (Builtin.SmallTypes.nextOf (.ref i1) >>= _) _ _ ⟨g0, g, d, tk0, os⟩
    refine wpAny_bind (D1.item i _ _ _ hlt1 (D1.over st1 hs0 S.zf1) fun x1 p1 tk1 hx1 sn1 hp1 => wpAny_pure ?_)
    replace hp1 : Heap.SameBut i1 g0 p1 := hp1
    have hU1 : IsTupOf2 p1 TO a1 a2 := hp1.extBut _ _ S.Ti1 (hs0.extBut _ _ S.TOz hTO)
    refine wpAny_bind (wpAny_seqItems (s := ⟨p1, g, d, tk1, os⟩) hU1 rfl ?_)
    refine wpAny_bind (updateSeq_IsTupOf2 (s := ⟨p1, g, d, tk1, os⟩) hU1 fun g1 hT1 hs1 => ?_)
    replace hT1 : IsTupOf2 g1 TO x1 a2 := hT1
    replace hs1 : Heap.SameBut TO p1 g1 := hs1
    refine wpAny_bind (wpAny_letGo (wpAny_pure ?_))
    refine wpAny_bind (wpAny_bind (wpAny_onRaise ?_))
    show wpAny _ _ (Builtin.SmallTypes.nextOf (.ref i2) >>= _) _ _ ⟨g1, g, d, tk1, os⟩
    refine wpAny_bind (D2.item i _ _ _ hlt2 (D2.over (D2.over (D2.over st2 hs0 S.zf2) hp1 S.sep1_2) hs1 S.Tf2) fun x2 p2 tk2 hx2 sn2 hp2 => wpAny_pure ?_)
    replace hp2 : Heap.SameBut i2 g1 p2 := hp2
    have hU2 : IsTupOf2 p2 TO x1 a2 := hp2.extBut _ _ S.Ti2 hT1
    refine wpAny_bind (wpAny_seqItems (s := ⟨p2, g, d, tk2, os⟩) hU2 rfl ?_)
    refine wpAny_bind (updateSeq_IsTupOf2 (s := ⟨p2, g, d, tk2, os⟩) hU2 fun g2 hT2 hs2 => ?_)
    replace hT2 : IsTupOf2 g2 TO x1 x2 := hT2
    replace hs2 : Heap.SameBut TO p2 g2 := hs2
    refine wpAny_bind (wpAny_letGo (wpAny_pure (wpAny_pure ?_)))
    refine wpAny_bind (wpAny_seqItems (s := ⟨g2, g, d, tk2, os⟩) hT2 rfl ?_)
    refine wpAny_bind (wpAny_newTuple ?_)
    have hsz : g2.objs.size = hp.objs.size := by rw [hs2.1, hp2.1, hs1.1, hp1.1, hs0.1]
    have hzz : ZipIs g2 z TI TO .ellipsis b := (hs2.extBut _ _ S.TOz.symm (hp2.extBut _ _ S.zi2 (hs1.extBut _ _ S.TOz.symm (hp1.extBut _ _ S.zi1 hz0))))
    have hkk : ∀ c o, c ≠ z → c ≠ TO → c ≠ i1 → c ≠ i2 → hp.get? c = some o → g2.get? c = some o := fun c o cz cT c1 c2 e =>
      (hs2.extBut _ _ cT (hp2.extBut _ _ c2 (hs1.extBut _ _ cT (hp1.extBut _ _ c1 (hs0.extBut _ _ cz e)))))
    have hj1 : St1 (i + 1) g2 := (D1.over (D1.over (D1.over sn1 hs1 S.Tf1) hp2 S.sep2_1) hs2 S.Tf1)
    have hj2 : St2 (i + 1) g2 := (D2.over sn2 hs2 S.Tf2)
    have hzlt : z < g2.objs.size := Heap.lt_size hzz
    show wpAny _ _ (Builtin.SmallTypes.ownedTupleHandOut (.ref z) (.ref g2.objs.size) >>= _) _ _ ⟨g2.push { cls := .type "tuple", data := .seq #[x1, x2] }, g, d, tk2, os⟩
    refine wpAny_bind ?_
    unfold Builtin.SmallTypes.ownedTupleHandOut
    have hz₆ : ZipIs (g2.push { cls := .type "tuple", data := .seq #[x1, x2] }) z TI TO .ellipsis b := Heap.get?_push_of_some _ hzz
    refine wpAny_bind (wpAny_setField_rec hz₆ (by simp) fun h₇ hz₇ hs₇ => ?_)
    replace hz₇ : ZipIs h₇ z TI TO (rawInt g2.objs.size) b := hz₇
    refine wpAny_setField_rec hz₇ (by simp) fun h₈ hz₈ hs₈ => ?_
    replace hz₈ : ZipIs h₈ z TI TO (rawInt g2.objs.size) false := hz₈
    replace hs₇ : Heap.SameBut z (g2.push { cls := .type "tuple", data := .seq #[x1, x2] }) h₇ := hs₇
    replace hs₈ : Heap.SameBut z h₇ h₈ := hs₈
    have up : ∀ c o, c ≠ z → g2.get? c = some o → h₈.get? c = some o := fun c o c1 e => hs₈.extBut _ _ c1 (hs₇.extBut _ _ c1 (Heap.get?_push_of_some _ e))
    have hT₈ : IsTupOf2 h₈ g2.objs.size x1 x2 := hs₈.extBut _ _ (Nat.ne_of_gt hzlt) (hs₇.extBut _ _ (Nat.ne_of_gt hzlt) (Heap.get?_push_size _ rfl))
    have hz8 : h₈.objs.size = g2.objs.size + 1 := by rw [hs₈.1, hs₇.1, Heap.size_push]
    rw [hsz] at hz₈ hT₈ hz8
    refine wpAny_pure ⟨_, rfl, ?_⟩
    show Q (.ref g2.objs.size) ⟨h₈, g, d, tk2, os⟩
    rw [hsz]
    refine hQ x1 x2 h₈ tk2 hx1 hx2 ⟨⟨_, _, hz₈, .inr ⟨_, rfl⟩⟩, ?_, x1, x2, up _ _ S.TOz hT2⟩ (D1.frame _ _ _ hj1 fun b hb o e => up b o (fun q => S.zf1 (q ▸ hb)) e) (D2.frame _ _ _ hj2 fun b hb o e => up b o (fun q => S.zf2 (q ▸ hb)) e) hT₈ hz8 fun c o cz cT c1 c2 e => up c o cz (hkk c o cz cT c1 c2 e)
    exact up _ _ S.TIz (hkk _ _ S.TIz S.TITO S.TIi1 S.TIi2 hTI)
  · -- a new tuple
    replace hs0 : Heap.SameBut z hp g0 := hs0
    simp only [Bool.false_eq_true, if_false]
    refine wpAny_bind ?_
    rw [← Array.forIn_toList]
    simp only [List.forIn_cons, List.forIn_nil]
    refine wpAny_bind (wpAny_bind (wpAny_holding ?_))
    show wpAny _ _ (Builtin.SmallTypes.nextOf (.ref i1) >>= _) _ _ ⟨g0, g, d, tk0, os⟩
    refine wpAny_bind (D1.item i _ _ _ hlt1 (D1.over st1 hs0 S.zf1) fun x1 p1 tk1 hx1 sn1 hp1 => wpAny_pure ?_)
    replace hp1 : Heap.SameBut i1 g0 p1 := hp1
    refine wpAny_pure ?_
    refine wpAny_bind (wpAny_bind (wpAny_holding ?_))
    show wpAny _ _ (Builtin.SmallTypes.nextOf (.ref i2) >>= _) _ _ ⟨p1, g, d, tk1, os⟩
    refine wpAny_bind (D2.item i _ _ _ hlt2 (D2.over (D2.over st2 hs0 S.zf2) hp1 S.sep1_2) fun x2 p2 tk2 hx2 sn2 hp2 => wpAny_pure ?_)
    replace hp2 : Heap.SameBut i2 p1 p2 := hp2
    refine wpAny_pure (wpAny_pure ?_)
    show wpAny _ _ (newTuple [x1, x2] >>= _) _ _ _
    refine wpAny_bind (wpAny_newTuple ?_)
    have hsz : p2.objs.size = hp.objs.size := by rw [hp2.1, hp1.1, hs0.1]
    have hzz : ZipIs p2 z TI TO f0 true := hp2.extBut _ _ S.zi2 (hp1.extBut _ _ S.zi1 hz0)
    have hk : ∀ c o, c ≠ z → c ≠ i1 → c ≠ i2 → hp.get? c = some o → p2.get? c = some o := fun c o c1 c2 c3 e => hp2.extBut _ _ c3 (hp1.extBut _ _ c2 (hs0.extBut _ _ c1 e))
    have hj1 : St1 (i + 1) p2 := D1.over sn1 hp2 S.sep2_1
    refine wpAny_pure ⟨_, rfl, ?_⟩
    show Q (.ref p2.objs.size) _
    have hpp : IsTupOf2 (p2.push { cls := .type "tuple", data := .seq #[x1, x2] }) p2.objs.size x1 x2 := Heap.get?_push_size _ rfl
    have hz4 : (p2.push { cls := .type "tuple", data := .seq #[x1, x2] }).objs.size = p2.objs.size + 1 := Heap.size_push ..
    rw [hsz] at hpp hz4 ⊢
    exact hQ x1 x2 _ tk2 hx1 hx2 ⟨⟨f0, true, Heap.get?_push_of_some _ hzz, hf⟩, Heap.get?_push_of_some _ (hk _ _ S.TIz S.TIi1 S.TIi2 hTI), a1, a2, Heap.get?_push_of_some _ (hk _ _ S.TOz S.Ti1 S.Ti2 hTO)⟩ (D1.frame _ _ _ hj1 fun _ _ _ e => Heap.get?_push_of_some _ e) (D2.frame _ _ _ sn2 fun _ _ _ e => Heap.get?_push_of_some _ e) hpp hz4
      fun c o c1 _ c3 c4 e => Heap.get?_push_of_some _ (hk c o c1 c3 c4 e)
theorem zipG_end {Q : Fin → Shared → Prop} (S : ZipSep2 z TI TO i1 i2 fp1 fp2) (D1 : Draws prog w A i1 fp1 n1 P1 St1) (D2 : Draws prog w A i2 fp2 n2 P2 St2)
    (hz : ZipSt s.heap z TI TO i1 i2) (st1 : St1 i s.heap) (st2 : St2 i s.heap) (hle1 : i ≤ n1) (hle2 : i ≤ n2) (hend : i = n1 ∨ i = n2)
    (hE : ∀ h' tk e, (∀ c o, c ≠ z → c ≠ TO → c ≠ i1 → c ≠ i2 → s.heap.get? c = some o → h'.get? c = some o) → (∃ o, h'.get? e = some o ∧ o.cls = .type "StopIteration") → E (.ref e) { s with heap := h', toks := tk }) :
    wpAny (model prog w) A (Builtin.«zip.__next__» ⟨[.ref z], []⟩) Q E s := by
  obtain ⟨hp, g, d, tk0, os⟩ := s
  obtain ⟨⟨f0, b, hz, hf⟩, hTI, a1, a2, hTO⟩ := hz
  show wpAny _ _ (field (.ref z) 2 >>= _) _ _ _
  refine wpAny_bind (wpAny_field hz rfl (x := .bool false) rfl ?_)
  show wpAny _ _ (field (.ref z) 3 >>= _) _ _ _
  refine wpAny_bind (wpAny_field hz rfl (x := .ref TI) rfl ?_)
  refine wpAny_bind (wpAny_seqItems hTI rfl ?_)
  show wpAny _ _ (Builtin.SmallTypes.ownedTupleIsFree (.ref z) >>= _) _ _ _
  refine wpAny_bind (zip_free hz hf ?_ fun T g0 eT hz0 hs0 => ?_)
  · simp only [if_true]
    refine wpAny_bind (wpAny_rule ?_)
    refine wpAny_bind (wpAny_field hz rfl (x := .ref TO) rfl ?_)
    refine wpAny_bind (wpAny_setField_rec hz (by simp) fun g0 hz0 hs0 => ?_)
    replace hz0 : ZipIs g0 z TI TO .ellipsis b := hz0
    replace hs0 : Heap.SameBut z hp g0 := hs0
    refine wpAny_bind ?_
    simp only [List.zipIdx_cons, List.zipIdx_nil, List.forIn_cons, List.forIn_nil]
    refine wpAny_bind (wpAny_bind (wpAny_onRaise ?_))
    show wpAny _ _ (Builtin.SmallTypes.nextOf (.ref i1) >>= _) _ _ ⟨g0, g, d, tk0, os⟩
    by_cases hlt1 : i < n1
    · refine wpAny_bind (D1.item i _ _ _ hlt1 (D1.over st1 hs0 S.zf1) fun x1 p1 tk1 hx1 sn1 hp1 => wpAny_pure ?_)
      replace hp1 : Heap.SameBut i1 g0 p1 := hp1
      have hU1 : IsTupOf2 p1 TO a1 a2 := hp1.extBut _ _ S.Ti1 (hs0.extBut _ _ S.TOz hTO)
      refine wpAny_bind (wpAny_seqItems (s := ⟨p1, g, d, tk1, os⟩) hU1 rfl ?_)
      refine wpAny_bind (updateSeq_IsTupOf2 (s := ⟨p1, g, d, tk1, os⟩) hU1 fun g1 hT1 hs1 => ?_)
      replace hT1 : IsTupOf2 g1 TO x1 a2 := hT1
      replace hs1 : Heap.SameBut TO p1 g1 := hs1
      refine wpAny_bind (wpAny_letGo (wpAny_pure ?_))
      have hi2 : i = n2 := by omega
      refine wpAny_bind (wpAny_bind (wpAny_onRaise ?_))
      show wpAny _ _ (Builtin.SmallTypes.nextOf (.ref i2) >>= _) _ _ ⟨g1, g, d, tk1, os⟩
      refine wpAny_bind (D2.done ⟨g1, g, d, tk1, os⟩ _ _ (by rw [← hi2]; exact (D2.over (D2.over (D2.over st2 hs0 S.zf2) hp1 S.sep1_2) hs1 S.Tf2)) fun q e hq he => ?_)
      replace hq : Heap.ExtBut i2 g1 q := hq
      obtain ⟨oe, hoe, hce⟩ := he
      replace hoe : q.get? e = some oe := hoe
      have hzq : ZipIs q z TI TO .ellipsis b := hq _ _ S.zi2 (hs1.extBut _ _ S.TOz.symm (hp1.extBut _ _ S.zi1 hz0))
      have hez : e ≠ z := fun x => by subst x; rw [show q.get? e = _ from hzq] at hoe; cases hoe; simp at hce
      refine wpAny_setField_rec (s := ⟨q, g, d, tk1, os⟩) hzq (by simp) fun q' _ hq' => ?_
      replace hq' : Heap.SameBut z q q' := hq'
      exact hE q' tk1 e (fun c o cz cT c1 c2 x => hq'.extBut _ _ cz (hq _ _ c2 (hs1.extBut _ _ cT (hp1.extBut _ _ c1 (hs0.extBut _ _ cz x))))) ⟨oe, hq'.extBut _ _ hez hoe, hce⟩
    · have hi1 : i = n1 := by omega
      refine wpAny_bind (D1.done ⟨g0, g, d, tk0, os⟩ _ _ (by rw [← hi1]; exact (D1.over st1 hs0 S.zf1)) fun q e hq he => ?_)
      replace hq : Heap.ExtBut i1 g0 q := hq
      obtain ⟨oe, hoe, hce⟩ := he
      replace hoe : q.get? e = some oe := hoe
      have hzq : ZipIs q z TI TO .ellipsis b := hq _ _ S.zi1 hz0
      have hez : e ≠ z := fun x => by subst x; rw [show q.get? e = _ from hzq] at hoe; cases hoe; simp at hce
      refine wpAny_setField_rec (s := ⟨q, g, d, tk0, os⟩) hzq (by simp) fun q' _ hq' => ?_
      replace hq' : Heap.SameBut z q q' := hq'
      exact hE q' tk0 e (fun c o cz cT c1 c2 x => hq'.extBut _ _ cz (hq _ _ c1 (hs0.extBut _ _ cz x))) ⟨oe, hq'.extBut _ _ hez hoe, hce⟩
  · replace hs0 : Heap.SameBut z hp g0 := hs0
    simp only [Bool.false_eq_true, if_false]
    refine wpAny_bind ?_
    rw [← Array.forIn_toList]
    simp only [List.forIn_cons, List.forIn_nil]
    refine wpAny_bind (wpAny_bind (wpAny_holding ?_))
    show wpAny _ _ (Builtin.SmallTypes.nextOf (.ref i1) >>= _) _ _ ⟨g0, g, d, tk0, os⟩
    by_cases hlt1 : i < n1
    · refine wpAny_bind (D1.item i _ _ _ hlt1 (D1.over st1 hs0 S.zf1) fun x1 p1 tk1 hx1 sn1 hp1 => wpAny_pure ?_)
      replace hp1 : Heap.SameBut i1 g0 p1 := hp1
      refine wpAny_pure ?_
      have hi2 : i = n2 := by omega
      refine wpAny_bind (wpAny_bind (wpAny_holding ?_))
      show wpAny _ _ (Builtin.SmallTypes.nextOf (.ref i2) >>= _) _ _ ⟨p1, g, d, tk1, os⟩
      refine wpAny_bind (D2.done ⟨p1, g, d, tk1, os⟩ _ _ (by rw [← hi2]; exact (D2.over (D2.over st2 hs0 S.zf2) hp1 S.sep1_2)) fun q e hq he => ?_)
      replace hq : Heap.ExtBut i2 p1 q := hq
      exact hE q tk1 e (fun c o cz cT c1 c2 x => hq _ _ c2 (hp1.extBut _ _ c1 (hs0.extBut _ _ cz x))) he
    · have hi1 : i = n1 := by omega
      refine wpAny_bind (D1.done ⟨g0, g, d, tk0, os⟩ _ _ (by rw [← hi1]; exact (D1.over st1 hs0 S.zf1)) fun q e hq he => ?_)
      replace hq : Heap.ExtBut i1 g0 q := hq
      exact hE q tk0 e (fun c o cz cT c1 c2 x => hq _ _ c1 (hs0.extBut _ _ cz x)) he
/-- the next of an enumerate over any iterator -/
theorem enumG_item {e it : Addr} {c : Nat} {old : Value} {R : Value → Heap → Prop} {Q : Option Value → Shared → Prop} (he : IsEnum s.heap e it c old)
    (hin : ∀ (Q' : Value → Shared → Prop) (E' : Value → Shared → Prop), (∀ x h₁ tk, R x h₁ → h₁.get? e = s.heap.get? e → Q' x { s with heap := h₁, toks := tk }) → wpAny (model prog w) A.in1 (Builtin.SmallTypes.nextOf (.ref it)) Q' E' s)
    (hQ : ∀ x h₁ h' tk, R x h₁ → IsEnumOut h' e it ((c : Int) + 1) x h₁.objs.size → h'.get? h₁.objs.size = some { cls := .type "tuple", data := .seq #[.int c tk, x] } → (∀ b o, b ≠ e → h₁.get? b = some o → h'.get? b = some o) → h₁.get? e = s.heap.get? e →
      Q (some (.ref h₁.objs.size)) { s with heap := h', toks := tk + 1 }) : wpAny (model prog w) A (pyNext (.ref e)) Q E s := by
  have hT : s.TypeIs (.ref e) "enumerate" := ⟨_, he, rfl⟩
  unfold pyNext
  refine wpAny_bind (wpAny_attempt (wpAny_callSpecial?_slot (name := Str.ofString "__next__") hT F.slot_enumerate_next (wpAny_call_entry F.slot_enumerate_next hT F.entry_enumerate_next ?_ (F.args_enumerate_next_1 _))))
  obtain ⟨hp, g, d, tk₀, os⟩ := s
  show wpAny _ _ (field (.ref e) 2 >>= _) _ _ _
  refine wpAny_bind (wpAny_field he rfl (x := .ref it) rfl ?_)
  refine wpAny_bind (hin _ _ fun x h₁ tk hR hs₁ => ?_)
  have he₁ : IsEnum h₁ e it c old := hs₁.trans he
  show wpAny _ _ (field (.ref e) 3 >>= _) _ _ ⟨h₁, g, d, tk, os⟩
  refine wpAny_bind (wpAny_field he₁ rfl (x := rawInt c) rfl ?_)
  show wpAny _ _ (field (.ref e) 4 >>= _) _ _ ⟨h₁, g, d, tk, os⟩
  refine wpAny_bind (wpAny_field he₁ rfl (x := .none) rfl ?_)
  show wpAny _ _ (mkInt c >>= _) _ _ ⟨h₁, g, d, tk, os⟩
  refine wpAny_bind (wpAny_mkInt ?_)
  show wpAny _ _ (setField (.ref e) 3 (rawInt ((c : Int) + 1)) >>= _) _ _ ⟨h₁, g, d, tk + 1, os⟩
  refine wpAny_bind (wpAny_setField_rec he₁ (by simp) fun h₂ he₂ hs₂ => ?_)
  replace hs₂ : Heap.SameBut e h₁ h₂ := hs₂
  replace he₂ : IsEnum h₂ e it ((c : Int) + 1) old := he₂
  show wpAny _ _ (setField (.ref e) 4 .none >>= _) _ _ ⟨h₂, g, d, tk + 1, os⟩
  refine wpAny_bind (wpAny_setField_rec he₂ (by simp) fun h₃ he₃ hs₃ => ?_)
  replace hs₃ : Heap.SameBut e h₂ h₃ := hs₃
  replace he₃ : IsEnum h₃ e it ((c : Int) + 1) old := he₃
  show wpAny _ _ (newTuple [.int c tk, x] >>= _) _ _ ⟨h₃, g, d, tk + 1, os⟩
  refine wpAny_bind (wpAny_newTuple ?_)
  have he₄ : IsEnum (h₃.push { cls := .type "tuple", data := .seq #[.int c tk, x] }) e it ((c : Int) + 1) old := Heap.get?_push_of_some _ he₃
  have hsz : h₃.objs.size = h₁.objs.size := by rw [hs₃.1, hs₂.1]
  have hel : e < h₁.objs.size := Heap.lt_size he₁
  have ht₄ : (h₃.push { cls := .type "tuple", data := .seq #[.int c tk, x] }).get? h₁.objs.size = some { cls := .type "tuple", data := .seq #[.int c tk, x] } := by rw [← hsz]; exact Heap.get?_push_size _ rfl
  have hk₄ : ∀ b o, b ≠ e → h₁.get? b = some o → (h₃.push { cls := .type "tuple", data := .seq #[.int c tk, x] }).get? b = some o := fun b o hbe hb => Heap.get?_push_of_some _ (hs₃.extBut b o hbe (hs₂.extBut b o hbe hb))
  generalize h₃.push { cls := .type "tuple", data := .seq #[.int c tk, x] } = h₄ at he₄ ht₄ hk₄
  show wpAny _ _ (Builtin.SmallTypes.ownedTupleIsFree (.ref e) >>= _) _ _ ⟨h₄, g, d, tk + 1, os⟩
  rw [hsz]
  refine wpAny_bind ?_
  unfold Builtin.SmallTypes.ownedTupleIsFree
  refine wpAny_bind (wpAny_field he₄ rfl (x := .none) rfl (wpAny_pure ?_))
  simp only [if_true]
  refine wpAny_bind (wpAny_rule ?_)
  refine wpAny_bind (wpAny_field he₄ rfl (x := old) rfl ?_)
  refine wpAny_bind (wpAny_setField_rec he₄ (by simp) fun h₅ he₅ hs₅ => ?_)
  replace hs₅ : Heap.SameBut e h₄ h₅ := hs₅
  replace he₅ : IsEnum h₅ e it ((c : Int) + 1) x := he₅
  show wpAny _ _ (Builtin.SmallTypes.ownedTupleHandOut (.ref e) (.ref h₁.objs.size) >>= _) _ _ ⟨h₅, g, d, tk + 1, os⟩
  refine wpAny_bind ?_
  unfold Builtin.SmallTypes.ownedTupleHandOut
  refine wpAny_bind (wpAny_setField_rec he₅ (by simp) fun h₆ he₆ hs₆ => ?_)
  replace hs₆ : Heap.SameBut e h₅ h₆ := hs₆
  replace he₆ : IsEnumOut h₆ e it ((c : Int) + 1) x h₁.objs.size := he₆
  refine wpAny_setField_rec he₆ (by simp) fun h₇ he₇ hs₇ => ?_
  replace hs₇ : Heap.SameBut e h₆ h₇ := hs₇
  replace he₇ : IsEnumOut h₇ e it ((c : Int) + 1) x h₁.objs.size := he₇
  refine wpAny_bind (wpAny_letGo (wpAny_pure ⟨_, rfl, wpAny_pure (hQ x h₁ h₇ tk hR he₇ ?_ ?_ hs₁)⟩))
  · exact hs₇.extBut _ _ (Nat.ne_of_gt hel) (hs₆.extBut _ _ (Nat.ne_of_gt hel) (hs₅.extBut _ _ (Nat.ne_of_gt hel) ht₄))
  · exact fun b o hbe hb => hs₇.extBut b o hbe (hs₆.extBut b o hbe (hs₅.extBut b o hbe (hk₄ b o hbe hb)))
theorem enumG_end {e it : Addr} {c : Int} {old : Value} {Q : Option Value → Shared → Prop} (he : IsEnum s.heap e it c old) {R : Heap → Prop}
    (hin : ∀ (Q' : Value → Shared → Prop) (E' : Value → Shared → Prop), (∀ h₁ tk x, R h₁ → (∃ o, h₁.get? x = some o ∧ o.cls = .type "StopIteration") → E' (.ref x) { s with heap := h₁, toks := tk }) → wpAny (model prog w) A.in1 (Builtin.SmallTypes.nextOf (.ref it)) Q' E' s)
    (hQ : ∀ h' tk, R h' → Q none { s with heap := h', toks := tk }) : wpAny (model prog w) A (pyNext (.ref e)) Q E s := by
  have hT : s.TypeIs (.ref e) "enumerate" := ⟨_, he, rfl⟩
  unfold pyNext
  refine wpAny_bind (wpAny_attempt (wpAny_callSpecial?_slot (name := Str.ofString "__next__") hT F.slot_enumerate_next (wpAny_call_entry F.slot_enumerate_next hT F.entry_enumerate_next ?_ (F.args_enumerate_next_1 _))))
  show wpAny _ _ (field (.ref e) 2 >>= _) _ _ _
  refine wpAny_bind (wpAny_field he rfl (x := .ref it) rfl ?_)
  refine wpAny_bind (hin _ _ fun h' tk x he' hx' => ?_)
  obtain ⟨o, ho, hc⟩ := hx'
  refine wpAny_bind (wpAny_isInstance (T := "StopIteration") (b := true) ⟨o, ho, hc⟩ isSubtype_stop ?_)
  exact wpAny_pure (hQ _ _ he')
end
/-- the tuples at a, b: pairs of their items, each in a pair with its place -/
def Itez (K : PySem.W.Frag) (a b : Addr) : It :=
  ⟨fun i H => ∃ (xs ys : List V) (x y : V), SqT K H a xs ∧ SqT K H b ys ∧ xs[i]? = some x ∧ ys[i]? = some y,
    fun i H v H' => ∃ T U x y, v = .ref U ∧ H T = none ∧ H U = none ∧ T ≠ U ∧ H' = upd (upd H T (.tup [x, y])) U (.tup [.int (i : Nat), .ref T]) ∧ (∀ xs, SqT K H a xs → xs[i]? = some x) ∧ ∀ ys, SqT K H b ys → ys[i]? = some y,
    fun i H => ∃ xs ys : List V, SqT K H a xs ∧ SqT K H b ys ∧ i ≤ xs.length ∧ i ≤ ys.length ∧ (i = xs.length ∨ i = ys.length)⟩
theorem turn_ez {P : Program} {w : World} {K : PySem.W.Frag} {elts : List Expr} {kk : Nat} {tpos : Pos} {a b e z TI TO i1 i2 : Addr} (S : ZipSep2 z TI TO i1 i2 [i1, a] [i2, b]) (ha : a ≠ i1) (hb : b ≠ i2) (hTa : TI ≠ a) (hTb : TI ≠ b)
    (n1 : e ≠ z) (n2 : e ≠ TI) (n3 : e ≠ TO) (n4 : e ≠ i1) (n5 : e ≠ i2) :
    Turn P w K (.Tuple elts kk tpos) (Itez K a b) [e, z, TI, TO, i1, i2] e (fun i h => (∃ old, IsEnum h e z ((i : Nat) : Int) old) ∧ ZipSt h z TI TO i1 i2 ∧ h.IsTupleIter i1 a i ∧ h.IsTupleIter i2 b i) where
  mem := by simp
  obj := fun i h st d hd => by
    obtain ⟨⟨old, he⟩, ⟨⟨f0, b0, hz, _⟩, hTI, x, y, hTO⟩, ⟨o1, e1, _, d1⟩, ⟨o2, e2, _, d2⟩⟩ := st
    have e' : d = e ∨ d = z ∨ d = TI ∨ d = TO ∨ d = i1 ∨ d = i2 := by simpa using hd
    rcases e' with q | q | q | q | q | q
    · rw [q]; exact ⟨_, he, fun v q => nomatch q⟩
    · rw [q]; exact ⟨_, hz, fun v q => nomatch q⟩
    · rw [q]; exact ⟨_, hTI, fun v q => nomatch q⟩
    · rw [q]; exact ⟨_, hTO, fun v q => nomatch q⟩
    · rw [q]; exact ⟨o1, e1, fun v q => by rw [d1] at q; cases q⟩
    · rw [q]; exact ⟨o2, e2, fun v q => by rw [d2] at q; cases q⟩
  keep := fun i h h' st k => by
    obtain ⟨⟨old, he⟩, ⟨⟨f0, b0, hz, hf⟩, hTI, x, y, hTO⟩, h1, h2⟩ := st
    exact ⟨⟨old, k e (by simp) _ he⟩, ⟨⟨f0, b0, k z (by simp) _ hz, hf⟩, k TI (by simp) _ hTI, x, y, k TO (by simp) _ hTO⟩, h1.at fun o q => k i1 (by simp) o q, h2.at fun o q => k i2 (by simp) o q⟩
  item := by
    intro X hP hw hK hc i pins s σ H E I hf st hg
    subst hP hw hK
    obtain ⟨⟨old, he⟩, hz, h1, h2⟩ := st
    obtain ⟨xs, ys, x, y, hqx, hqy, hx, hy⟩ := hg
    obtain ⟨its, rv, p, _⟩ := I.tuple hqx
    obtain ⟨its2, rv2, p2, _⟩ := I.tuple hqy
    obtain ⟨u, hu, ru⟩ := rv.get hx
    obtain ⟨u2, hu2, ru2⟩ := rv2.get hy
    have hel : e < s.heap.objs.size := Heap.lt_size he
    have hzl : z < s.heap.objs.size := by obtain ⟨⟨_, _, q, _⟩, _⟩ := hz; exact Heap.lt_size q
    have hA : X.A.in1.in1.handled = none := I.ok.hd hc
    have hTy : s.TypeIs (.ref z) "zip" := by obtain ⟨⟨_, _, q, _⟩, _⟩ := hz; exact ⟨_, q, rfl⟩
    refine enumG_item (R := fun v h₁ => v = .ref s.heap.objs.size ∧ ∃ x1 x2, ZipSt h₁ z TI TO i1 i2 ∧ (h₁.IsTupleIter i1 a (i + 1) ∧ h₁.IsTuple a its.toArray) ∧ (h₁.IsTupleIter i2 b (i + 1) ∧ h₁.IsTuple b its2.toArray) ∧ its.toArray[i]? = some x1 ∧ its2.toArray[i]? = some x2 ∧
      IsTupOf2 h₁ s.heap.objs.size x1 x2 ∧ h₁.objs.size = s.heap.objs.size + 1 ∧ ∀ c o, c ≠ z → c ≠ TO → c ≠ i1 → c ≠ i2 → s.heap.get? c = some o → h₁.get? c = some o) he (fun Q' E' hq => ?_) fun v h₁ h' tk hR ho hT hk _ => ?_
    · unfold Builtin.SmallTypes.nextOf
      refine wpAny_bind (wpAny_callSpecial?_slot (name := Str.ofString "__next__") hTy F.slot_zip_next
        (wpAny_call_entry F.slot_zip_next hTy F.entry_zip_next
          (zipG_item S (Draws.tuple hA i1 a ha its.toArray) (Draws.tuple hA i2 b hb its2.toArray) (by simp [S.TIi1, hTa]) (by simp [S.TIi2, hTb]) hz ⟨h1, p⟩ ⟨h2, p2⟩ (lt_at2 hu) (lt_at2 hu2)
            fun x1 x2 h₁ tk q1 q2 zs d1 d2 hT hsz hk => wpAny_pure (hq _ h₁ tk ⟨rfl, x1, x2, zs, d1, d2, q1, q2, hT, hsz, hk⟩ ?_)) (F.args_zip_next_1 _)))
      exact (hk e _ n1 n3 n4 n5 he).trans he.symm
    · obtain ⟨rfl, x1, x2, zs, d1, d2, q1, q2, hT1, hsz, hk1⟩ := hR
      obtain rfl := pick_at2 hu q1
      obtain rfl := pick_at2 hu2 q2
      refine ⟨_, rfl, wpAny_letOwnedTupleGo_enum (s := { s with heap := h', toks := tk + 1 }) ho fun h'' he' sb => ?_⟩
      have hne0 : h₁.objs.size ≠ e := by rw [hsz]; exact Nat.ne_of_gt (Nat.lt_succ_of_lt hel)
      have hT2 : h''.get? h₁.objs.size = some { cls := .type "tuple", data := .seq #[.int i tk, .ref s.heap.objs.size] } := (sb.2 _ hne0).trans hT
      have hT3 : h''.get? s.heap.objs.size = some { cls := .type "tuple", data := .seq #[x1, x2] } := (sb.2 _ (Nat.ne_of_gt hel)).trans (hk _ _ (Nat.ne_of_gt hel) hT1)
      have new : ObjOk X.prog X.w (upd H s.heap.objs.size (.tup [x, y])) h₁ s.heap.objs.size (.tup [x, y]) :=
        ⟨by show 2 ≤ sizeLine; decide, [x1, x2], .cons ru (.cons ru2 .nil), ⟨_, hT1, rfl, _, rfl⟩⟩
      have I1 : Inv X pins σ (upd H s.heap.objs.size (.tup [x, y])) { s with heap := h₁, toks := tk } :=
        I.turnedNew (t' := tk) (ch := [e, z, TI, TO, i1, i2]) (fun c o hb q => hk1 c o (fun q' => hb (by simp [q'])) (fun q' => hb (by simp [q'])) (fun q' => hb (by simp [q'])) (fun q' => hb (by simp [q'])) q) hf (Nat.le_refl _) new
      have hcl : ∀ c ∈ [e, z, TI, TO, i1, i2], c < s.heap.objs.size := fun c hcm => by
        obtain ⟨⟨_, _, qz, _⟩, qTI, _, _, qTO⟩ := hz
        have e' : c = e ∨ c = z ∨ c = TI ∨ c = TO ∨ c = i1 ∨ c = i2 := by simpa using hcm
        rcases e' with q | q | q | q | q | q
        · rw [q]; exact hel
        · rw [q]; exact hzl
        · rw [q]; exact Heap.lt_size qTI
        · rw [q]; exact Heap.lt_size qTO
        · rw [q]; obtain ⟨_, e1, _⟩ := h1; exact Heap.lt_size e1
        · rw [q]; obtain ⟨_, e2, _⟩ := h2; exact Heap.lt_size e2
      have hf1 : ∀ b ∈ [e, z, TI, TO, i1, i2], FpOk X pins (upd H s.heap.objs.size (.tup [x, y])) b := fun c hcm => by
        obtain ⟨g0, gr⟩ := hf c hcm
        exact ⟨by rw [upd_ne (Nat.ne_of_lt (hcl c hcm))]; exact g0, gr⟩
      have new2 : ObjOk X.prog X.w (upd (upd H s.heap.objs.size (.tup [x, y])) h₁.objs.size (.tup [.int (i : Nat), .ref s.heap.objs.size])) h'' h₁.objs.size (.tup [.int (i : Nat), .ref s.heap.objs.size]) :=
        ⟨by show 2 ≤ sizeLine; decide, [.int i tk, .ref s.heap.objs.size], .cons ⟨_, rfl⟩ (.cons rfl .nil), ⟨_, hT2, rfl, _, rfl⟩⟩
      have I2 : Inv X pins σ (upd (upd H s.heap.objs.size (.tup [x, y])) h₁.objs.size (.tup [.int (i : Nat), .ref s.heap.objs.size])) { s with heap := h'', toks := tk + 1 } :=
        I1.turnedNew (t' := tk + 1) (ch := [e, z, TI, TO, i1, i2]) (fun c o hb q => (sb.2 c (fun z => hb (by simp [z]))).trans (hk c o (fun z => hb (by simp [z])) q)) hf1 (Nat.le_refl _) new2
      have kk : ∀ c o, c ≠ e → h₁.get? c = some o → h''.get? c = some o := fun c o ce q => (sb.2 c ce).trans (hk c o ce q)
      refine ⟨.ref h₁.objs.size, _, I2, rfl, ⟨s.heap.objs.size, h₁.objs.size, x, y, rfl, I.hok.fresh (Nat.le_refl _), I.hok.fresh (by rw [hsz]; exact Nat.le_succ _), by rw [hsz]; exact Nat.ne_of_lt (Nat.lt_succ_self _), rfl, fun l hl => by rw [I.tuple_inj hl hqx]; exact hx, fun l hl => by rw [I.tuple_inj hl hqy]; exact hy⟩,
        ⟨⟨.ref s.heap.objs.size, ?_⟩, ?_, d1.1.at fun o q => kk i1 o (Ne.symm n4) q, d2.1.at fun o q => kk i2 o (Ne.symm n5) q⟩, fun c hcm => ?_⟩
      · have e1 : ((i + 1 : Nat) : Int) = (i : Int) + 1 := by omega
        rw [e1]; exact he'
      · obtain ⟨⟨f0, b0, qz, qf⟩, qTI, x', y', qTO⟩ := zs
        exact ⟨⟨f0, b0, kk z _ (Ne.symm n1) qz, qf⟩, kk TI _ (Ne.symm n2) qTI, x', y', kk TO _ (Ne.symm n3) qTO⟩
      · have hl := hcl c hcm
        rw [upd_ne (by rw [hsz]; exact Nat.ne_of_lt (Nat.lt_succ_of_lt hl)), upd_ne (Nat.ne_of_lt hl)]
        exact (hf c hcm).1
  done := by
    intro X hP hw hK hc i pins s σ H E I hf st hg
    subst hP hw hK
    obtain ⟨⟨old, he⟩, hz, h1, h2⟩ := st
    obtain ⟨xs, ys, hqx, hqy, l1, l2, l3⟩ := hg
    obtain ⟨its, rv, p, _⟩ := I.tuple hqx
    obtain ⟨its2, rv2, p2, _⟩ := I.tuple hqy
    have m1 := rv.length
    have m2 := rv2.length
    have hA : X.A.in1.in1.handled = none := I.ok.hd hc
    have hTy : s.TypeIs (.ref z) "zip" := by obtain ⟨⟨_, _, q, _⟩, _⟩ := hz; exact ⟨_, q, rfl⟩
    refine enumG_end (R := fun h' => ∀ c o, c ≠ z → c ≠ TO → c ≠ i1 → c ≠ i2 → s.heap.get? c = some o → h'.get? c = some o) he (fun Q' E' hq => ?_) fun h' tk hk => ⟨rfl, I.turnedL (t' := tk) (ch := [e, z, TI, TO, i1, i2]) (fun c o hb q =>
      hk c o (fun q' => hb (by simp [q'])) (fun q' => hb (by simp [q'])) (fun q' => hb (by simp [q'])) (fun q' => hb (by simp [q'])) q) hf⟩
    unfold Builtin.SmallTypes.nextOf
    exact wpAny_bind (wpAny_callSpecial?_slot (name := Str.ofString "__next__") hTy F.slot_zip_next
      (wpAny_call_entry F.slot_zip_next hTy F.entry_zip_next
        (zipG_end S (Draws.tuple hA i1 a ha its.toArray) (Draws.tuple hA i2 b hb its2.toArray) hz ⟨h1, p⟩ ⟨h2, p2⟩ (by simp; omega) (by simp; omega) (by simp; omega) fun h' tk e' hk he' => hq h' tk e' hk he') (F.args_zip_next_1 _)))
  self := fun A i s Q E st h => let ⟨⟨_, he⟩, _⟩ := st; wpAny_pyIter_enum he h
def iEz (K : PySem.W.Frag) (ta : TA) : TI := fun σ H R => ta σ H fun vs H1 => ∃ a b xs ys, vs = [.ref a, .ref b] ∧ SqT K H1 a xs ∧ SqT K H1 b ys ∧ R (Itez K a b) H1
theorem pi_ez {X : Cx} {e e2 : Expr} {ta : TA} {p pos p2 pos2 tpos : Pos} {elts : List Expr} {kk : Nat} (hg : Gl X "enumerate") (hm : X.mg "enumerate" = none) (hg2 : Gl X "zip") (hm2 : X.mg "zip" = none) (ha : PA X [e, e2] ta)
    (hs : starEach [e, e2] X.env = (false, eval e X.env) :: starEach [e2] X.env := by rfl) (hpl : (backTo pos2 (starEach [e2] X.env)).any (·.1) = false := by rfl)
    (na : starEach [.Call (.Name "zip" p2) [e, e2] [] pos2] X.env = (false, eval (.Call (.Name "zip" p2) [e, e2] [] pos2) X.env) :: starEach [] X.env := by rfl) :
    PI X (.Tuple elts kk tpos) (.Call (.Name "enumerate" p) [.Call (.Name "zip" p2) [e, e2] [] pos2] [] pos) (iEz X.K ta) := by
  refine ⟨fun pins s σ H R I h => ?_⟩
  refine Call_ (ld_blt I hg hm boot_enumerate (PyProof.Rows.callWith_type1 (PyProof.Rows.args_cons ?_ na) na rfl))
  refine Call_ (ld_blt I hg2 hm2 PyProof.Rows.boot_zip (PyProof.Rows.callWith_type1 (thn (ha.run pos2 pins s σ H _ I h) fun us s1 ⟨vs, H1, I1, r1, q1⟩ => ?_) hs hpl))
  obtain ⟨a, b, xs, ys, ex, hqx, hqy, q⟩ := q1
  subst ex
  cases r1 with
  | cons r rr =>
    cases rr with
    | cons r' rr =>
      cases rr
      cases r
      cases r'
      obtain ⟨its, rv, p1, _⟩ := I1.tuple hqx
      obtain ⟨its2, rv2, pp2, _⟩ := I1.tuple hqy
      have la := p1.lt
      have lb := pp2.lt
      refine zip_begins2 (begins_tuple a its.toArray) (begins_tuple b its2.toArray) p1 pp2 fun h' hz hTI hTO h1 h2 hsz hk => PyProof.Rows.args_nil ?_
      refine enum_begins1S (s := { s1 with heap := h' }) (v := .ref (s1.heap.objs.size + 4)) (it := s1.heap.objs.size + 4) (H := fun h => IsZip h (s1.heap.objs.size + 4) (s1.heap.objs.size + 2) (s1.heap.objs.size + 3) .none) (fun prog w A E s Q hz h => wpAny_pyIter_zip hz h) hz fun h'' he hk2 => wpAny_pyIter_enum he ?_
      have I2 : Inv X pins σ H1 { s1 with heap := h'' } := I1.kept (t' := s1.toks) fun c o e => hk2 c o (hk c o e)
      have hsz' : h'.objs.size = s1.heap.objs.size + 5 := hsz
      replace he : IsEnum h'' h'.objs.size (s1.heap.objs.size + 4) 0 .none := he
      rw [hsz'] at he
      show PIE X pins σ _ R (.ref h'.objs.size) _
      rw [hsz']
      refine ⟨s1.heap.objs.size + 5, [s1.heap.objs.size + 5, s1.heap.objs.size + 4, s1.heap.objs.size + 2, s1.heap.objs.size + 3, s1.heap.objs.size, s1.heap.objs.size + 1], _, _, H1, rfl, I2,
        turn_ez (a := a) (b := b) (e := s1.heap.objs.size + 5) (zip_sep2 (N := s1.heap.objs.size) (fp1 := [a]) (fp2 := [b]) (fun d hd => by rw [List.mem_singleton.mp hd]; exact la) (fun d hd => by rw [List.mem_singleton.mp hd]; exact lb)) (Nat.ne_of_lt la) (Nat.ne_of_lt (Nat.lt_succ_of_lt lb))
          (Nat.ne_of_gt (Nat.lt_of_lt_of_le la (Nat.le_add_right _ _))) (Nat.ne_of_gt (Nat.lt_of_lt_of_le lb (Nat.le_add_right _ _)))
          (show (s1.heap.objs.size + 5 : Nat) ≠ s1.heap.objs.size + 4 by omega) (show (s1.heap.objs.size + 5 : Nat) ≠ s1.heap.objs.size + 2 by omega) (show (s1.heap.objs.size + 5 : Nat) ≠ s1.heap.objs.size + 3 by omega) (show (s1.heap.objs.size + 5 : Nat) ≠ s1.heap.objs.size by omega) (show (s1.heap.objs.size + 5 : Nat) ≠ s1.heap.objs.size + 1 by omega),
        ⟨⟨.none, he⟩, ⟨⟨.none, false, hk2 _ _ hz, .inl rfl⟩, hk2 _ _ hTI, _, _, hk2 _ _ hTO⟩, ⟨_, hk2 _ _ h1, rfl, rfl⟩, ⟨_, hk2 _ _ h2, rfl, rfl⟩⟩, fun d hd => I1.fpOk ?_ (I1.hok.fresh ?_), q⟩
      all_goals
        have e' : d = s1.heap.objs.size + 5 ∨ d = s1.heap.objs.size + 4 ∨ d = s1.heap.objs.size + 2 ∨ d = s1.heap.objs.size + 3 ∨ d = s1.heap.objs.size ∨ d = s1.heap.objs.size + 1 := by simpa using hd
        rcases e' with z | z | z | z | z | z
        · rw [z]; exact Nat.le_add_right _ _
        · rw [z]; exact Nat.le_add_right _ _
        · rw [z]; exact Nat.le_add_right _ _
        · rw [z]; exact Nat.le_add_right _ _
        · rw [z]; exact Nat.le_refl _
        · rw [z]; exact Nat.le_add_right _ _
end K4
namespace K4
open PySem PySem.Spec PyProof.Rows L2
/-! ### dicts whose keys are nested tuples -/
mutual
inductive Kd (K : PySem.W.Frag) (H : Hp) : V → NestedKey → Prop
  | non : Kd K H .non .none
  | bl (b : Bool) : Kd K H (.bl b) (.num (if b = true then 1 else 0))
  | int (i : Int) : Kd K H (.int i) (.num i)
  | str (x : Str) (h : PyData.strOk x = true) : Kd K H (.str x) (.text x)
  | tup {a : Addr} {xs : List V} {ks : List NestedKey} : SqT K H a xs → KdAll K H xs ks → Kd K H (.ref a) (.tup ks)
inductive KdAll (K : PySem.W.Frag) (H : Hp) : List V → List NestedKey → Prop
  | nil : KdAll K H [] []
  | cons {v : V} {vs : List V} {k : NestedKey} {ks : List NestedKey} : Kd K H v k → KdAll K H vs ks → KdAll K H (v :: vs) (k :: ks)
end
section
variable {X : Cx} {pins : List (Addr × Obj)} {σ : L2.St} {H : Hp} {s : Shared}
mutual
theorem kd_is (I : Inv X pins σ H s) : ∀ (k : NestedKey) (v : V) (u : Value), Kd X.K H v k → RelV v u → NestedIs s.heap k u
  | .num i, _, _, h, r => by
    cases h with
    | int =>
      obtain ⟨t, rfl⟩ := r
      exact .int i t
    | bl b =>
      cases r
      exact .bool rfl
  | .text x, _, _, h, r => by
    cases h
    obtain ⟨t, rfl⟩ := r
    exact .text x t
  | .tup ks, _, _, h, r => by
    cases h with
    | tup hs ha =>
      cases r
      obtain ⟨its, rv, ⟨o, ho, hc, n, hd⟩, _⟩ := I.tuple hs
      exact .tup ho hc hd (kd_all I ks _ its ha rv)
  | .none, _, _, h, r => by
    cases h
    cases r
    exact .none
theorem kd_all (I : Inv X pins σ H s) : ∀ (ks : List NestedKey) (vs : List V) (us : List Value), KdAll X.K H vs ks → Vals vs us → NestedAll s.heap ks us
  | [], _, _, h, r => by
    cases h
    cases r
    exact .nil
  | k :: ks, _, _, h, r => by
    cases h with
    | cons h1 h2 =>
      cases r with
      | cons r1 r2 => exact .cons (kd_is I k _ _ h1 r1) (kd_all I ks _ _ h2 r2)
end
end
section
variable {K : PySem.W.Frag} {H H' : Hp}
mutual
theorem Kd.tk (t : ∀ a xs, SqT K H a xs → SqT K H' a xs) : ∀ (k : NestedKey) (v : V), Kd K H v k → Kd K H' v k
  | .num i, _, h => by
    cases h with
    | int => exact .int i
    | bl b => exact .bl b
  | .text x, _, h => by
    cases h with
    | str _ q => exact .str x q
  | .tup ks, _, h => by
    cases h with
    | tup hs ha => exact .tup (t _ _ hs) (KdAll.tk t ks _ ha)
  | .none, _, h => by cases h; exact .non
theorem KdAll.tk (t : ∀ a xs, SqT K H a xs → SqT K H' a xs) : ∀ (ks : List NestedKey) (vs : List V), KdAll K H vs ks → KdAll K H' vs ks
  | [], _, h => by cases h; exact .nil
  | k :: ks, _, h => by
    cases h with
    | cons h1 h2 => exact .cons (Kd.tk t k _ h1) (KdAll.tk t ks _ h2)
end
end
/-! == of such data -/
mutual
inductive Al : PyData → NestedKey → Prop
  | non : Al .none .none
  | bl (b : Bool) : Al (.bool b) (.num (if b = true then 1 else 0))
  | int (i : Int) : Al (.int i) (.num i)
  | str (x : Str) (h : PyData.strOk x = true) : Al (.str x) (.text x)
  | tup {ds : List PyData} {ks : List NestedKey} : AlAll ds ks → Al (.tuple ds) (.tup ks)
inductive AlAll : List PyData → List NestedKey → Prop
  | nil : AlAll [] []
  | cons {d : PyData} {ds : List PyData} {k : NestedKey} {ks : List NestedKey} : Al d k → AlAll ds ks → AlAll (d :: ds) (k :: ks)
end
mutual
theorem Al.eqv : ∀ (k l : NestedKey) (d e : PyData), Al d k → Al e l → PyData.eqv d e = NestedKey.beq k l
  | .none, .none, _, _, h1, h2 => by cases h1; cases h2; rfl
  | .num i, .num j, _, _, h1, h2 => by
    cases h1 with
    | int => cases h2 with
      | int => simp [PyData.eqv, NestedKey.beq]; rfl
      | bl b => cases b <;> simp [PyData.eqv, NestedKey.beq] <;> rfl
    | bl a => cases h2 with
      | int => cases a <;> simp [PyData.eqv, NestedKey.beq] <;> rfl
      | bl b => cases a <;> cases b <;> simp [PyData.eqv, NestedKey.beq]
  | .text x, .text y, _, _, h1, h2 => by cases h1; cases h2; simp [PyData.eqv, NestedKey.beq]; rfl
  | .tup ks, .tup ls, _, _, h1, h2 => by
    cases h1 with
    | tup a => cases h2 with
      | tup b =>
        simp only [PyData.eqv, NestedKey.beq]
        exact AlAll.eqv ks ls _ _ a b
  | .none, .num _, _, _, h1, h2 => by cases h1; cases h2 <;> simp [PyData.eqv, NestedKey.beq]
  | .none, .text _, _, _, h1, h2 => by cases h1; cases h2; simp [PyData.eqv, NestedKey.beq]
  | .none, .tup _, _, _, h1, h2 => by cases h1; cases h2; simp [PyData.eqv, NestedKey.beq]
  | .num _, .none, _, _, h1, h2 => by cases h2; cases h1 <;> simp [PyData.eqv, NestedKey.beq]
  | .num _, .text _, _, _, h1, h2 => by cases h2; cases h1 <;> simp [PyData.eqv, NestedKey.beq]
  | .num _, .tup _, _, _, h1, h2 => by cases h2; cases h1 <;> simp [PyData.eqv, NestedKey.beq]
  | .text _, .none, _, _, h1, h2 => by cases h1; cases h2; simp [PyData.eqv, NestedKey.beq]
  | .text _, .num _, _, _, h1, h2 => by cases h1; cases h2 <;> simp [PyData.eqv, NestedKey.beq]
  | .text _, .tup _, _, _, h1, h2 => by cases h1; cases h2; simp [PyData.eqv, NestedKey.beq]
  | .tup _, .none, _, _, h1, h2 => by cases h1; cases h2; simp [PyData.eqv, NestedKey.beq]
  | .tup _, .num _, _, _, h1, h2 => by cases h1; cases h2 <;> simp [PyData.eqv, NestedKey.beq]
  | .tup _, .text _, _, _, h1, h2 => by cases h1; cases h2; simp [PyData.eqv, NestedKey.beq]
theorem AlAll.eqv : ∀ (ks ls : List NestedKey) (ds es : List PyData), AlAll ds ks → AlAll es ls → PyData.eqvAll ds es = NestedKey.beqAll ks ls
  | [], [], _, _, h1, h2 => by cases h1; cases h2; rfl
  | [], _ :: _, _, _, h1, h2 => by cases h1; cases h2; rfl
  | _ :: _, [], _, _, h1, h2 => by cases h1; cases h2; rfl
  | k :: ks, l :: ls, _, _, h1, h2 => by
    cases h1 with
    | cons a1 a2 => cases h2 with
      | cons b1 b2 =>
        simp only [PyData.eqvAll, NestedKey.beqAll]
        rw [Al.eqv k l _ _ a1 b1, AlAll.eqv ks ls _ _ a2 b2]
end
mutual
theorem Al.ok : ∀ (k : NestedKey) (d : PyData), Al d k → PyData.canLay0 d = true ∧ PyData.depth d = k.depth
  | .none, _, h => by cases h; exact ⟨rfl, rfl⟩
  | .num _, _, h => by cases h <;> exact ⟨rfl, rfl⟩
  | .text _, _, h => by
    cases h with
    | str _ q => exact ⟨q, rfl⟩
  | .tup ks, _, h => by
    cases h with
    | tup a =>
      obtain ⟨h1, h2⟩ := AlAll.ok ks _ a
      refine ⟨h1, ?_⟩
      simp only [PyData.depth, NestedKey.depth]
      rw [h2]
theorem AlAll.ok : ∀ (ks : List NestedKey) (ds : List PyData), AlAll ds ks → PyData.canLayAll0 ds = true ∧ PyData.depthAll ds = NestedKey.depthAll ks
  | [], _, h => by cases h; exact ⟨rfl, rfl⟩
  | k :: ks, _, h => by
    cases h with
    | cons a b =>
      obtain ⟨h1, h2⟩ := Al.ok k _ a
      obtain ⟨h3, h4⟩ := AlAll.ok ks _ b
      simp only [PyData.canLayAll0, PyData.depthAll, NestedKey.depthAll]
      rw [h1, h3, h2, h4]
      exact ⟨rfl, rfl⟩
end
section
variable {K : PySem.W.Frag} {H : Hp}
mutual
theorem Kd.dp : ∀ (k : NestedKey) (v : V), Kd K H v k → ∃ d, Dp K H v d ∧ Al d k
  | .none, _, h => by cases h; exact ⟨_, .non, .non⟩
  | .num i, _, h => by
    cases h with
    | int => exact ⟨_, .int i, .int i⟩
    | bl b => exact ⟨_, .bl b, .bl b⟩
  | .text x, _, h => by
    cases h with
    | str _ q => exact ⟨_, .str x, .str x q⟩
  | .tup ks, _, h => by
    cases h with
    | tup hs ha =>
      obtain ⟨ds, h1, h2⟩ := KdAll.dp ks _ ha
      exact ⟨_, .tup hs h1, .tup h2⟩
theorem KdAll.dp : ∀ (ks : List NestedKey) (vs : List V), KdAll K H vs ks → ∃ ds, DpAll K H vs ds ∧ AlAll ds ks
  | [], _, h => by cases h; exact ⟨_, .nil, .nil⟩
  | k :: ks, _, h => by
    cases h with
    | cons a b =>
      obtain ⟨d, h1, h2⟩ := Kd.dp k _ a
      obtain ⟨ds, h3, h4⟩ := KdAll.dp ks _ b
      exact ⟨_, .cons h1 h3, .cons h2 h4⟩
end
end
section
variable {X : Cx}
def rEqK (K : PySem.W.Frag) (neg : Bool) : R2 := fun x y H Q => ∃ k l, Kd K H x k ∧ Kd K H y l ∧ k.depth ≤ 64 ∧ l.depth ≤ 64 ∧ Q (.bl (if neg = true then !decide (k = l) else decide (k = l))) H
theorem al_shaped {k : NestedKey} {d : PyData} (h : Al d k) (hd : k.depth ≤ 64) : SeqAt.shaped d = true := by
  obtain ⟨h1, h2⟩ := Al.ok k d h
  unfold SeqAt.shaped
  rw [h1, h2, decide_eq_true hd]
  rfl
theorem op_eqK (hu : X.A.units + 64 < cLine) : OpR X (compareOp .Eq) (rEqK X.K false) := by
  intro pins s σ H x y v u Q I r1 r2 h
  obtain ⟨k, l, h1, h2, d1, d2, q⟩ := h
  obtain ⟨d, hd, a1⟩ := Kd.dp k _ h1
  obtain ⟨e, he, a2⟩ := Kd.dp l _ h2
  refine op_eqD hu pins s σ H x y v u Q I r1 r2 ⟨d, e, hd, he, al_shaped a1 d1, al_shaped a2 d2, ?_⟩
  rw [Al.eqv k l d e a1 a2, ← NestedKey.decide_eq]
  exact q
theorem op_neK (hu : X.A.units + 64 < cLine) : OpR X (compareOp .NotEq) (rEqK X.K true) := by
  intro pins s σ H x y v u Q I r1 r2 h
  obtain ⟨k, l, h1, h2, d1, d2, q⟩ := h
  obtain ⟨d, hd, a1⟩ := Kd.dp k _ h1
  obtain ⟨e, he, a2⟩ := Kd.dp l _ h2
  refine op_neD hu pins s σ H x y v u Q I r1 r2 ⟨d, e, hd, he, al_shaped a1 d1, al_shaped a2 d2, ?_⟩
  rw [Al.eqv k l d e a1 a2, ← NestedKey.decide_eq]
  exact q
end
/-- entry by entry: key, where its tuple stands, value -/
abbrev Ent := NestedKey × Addr × V
def dNp (P : Program) (w : World) (d : Addr) (es : List Ent) : Heap → Prop := fun h => (d == sysModules) = false ∧ es.length ≤ sizeLine ∧ ∃ xs : List (NestedKey × Addr × Value), Paired (fun (p : Ent) (q : NestedKey × Addr × Value) => p.1 = q.1 ∧ p.2.1 = q.2.1 ∧ RelV p.2.2 q.2.2) es xs ∧
  ∃ o en ep, h.get? d = some o ∧ o.ExactDict ∧ o.data = .dict en ep ∧ en.toList = xs.map (entryOfKey (nestedKind P w)) ∧ (xs.map (·.1)).Nodup
def dN (P : Program) (w : World) (d : Addr) (es : List Ent) : HO := .ext (dNp P w d es)
def valN (es : List Ent) (k : NestedKey) : Option V := (es.find? fun p => decide (p.1 = k)).map (·.2.2)
/-- the entries' keys stand in the heap -/
def KeysN (K : PySem.W.Frag) (H : Hp) (es : List Ent) : Prop := ∀ p ∈ es, Kd K H (.ref p.2.1) p.1 ∧ p.1.depth ≤ 8
theorem dN_ok {P : Program} {w : World} {H : Hp} {h : Heap} {d : Addr} {es : List Ent} (p : dNp P w d es h) : ObjOk P w H h d (dN P w d es) := by
  obtain ⟨h1, h2, xs, r, o, en, ep, e, c⟩ := id p
  refine ⟨p, ⟨o, e⟩, fun g1 g2 ⟨h1, h2, xs, r, o, en, ep, e, c⟩ k => ⟨h1, h2, xs, r, o, en, ep, k o e, c⟩⟩
section
variable {X : Cx} {pins : List (Addr × Obj)} {σ : L2.St} {H : Hp} {s : Shared} {A : Around} {E : Value → Shared → Prop} {d : Addr} {es : List Ent}
theorem dN_rd (I : Inv X pins σ H s) (e : H d = some (dN X.prog X.w d es)) (kn : KeysN X.K H es) : (d == sysModules) = false ∧ es.length ≤ sizeLine ∧ ∃ xs : List (NestedKey × Addr × Value), Paired (fun (p : Ent) (q : NestedKey × Addr × Value) => p.1 = q.1 ∧ p.2.1 = q.2.1 ∧ RelV p.2.2 q.2.2) es xs ∧
    s.heap.DictOfH (nestedKind X.prog X.w) d xs := by
  obtain ⟨⟨h1, h2, xs, r, o, en, ep, e, c1, c2, c3, c4⟩, _⟩ := (show ObjOk X.prog X.w H s.heap d (.ext (dNp X.prog X.w d es)) from I.hok d _ e)
  refine ⟨h1, h2, xs, r, o, en, ep, e, c1, c2, c3, fun x hx => ?_, c4⟩
  have all : ∀ {l : List Ent} {m : List (NestedKey × Addr × Value)}, Paired (fun (p : Ent) (q : NestedKey × Addr × Value) => p.1 = q.1 ∧ p.2.1 = q.2.1 ∧ RelV p.2.2 q.2.2) l m → KeysN X.K H l → ∀ x ∈ m, (nestedKind X.prog X.w).is s.heap x.1 x.2.1 := by
    intro l m q
    induction q with
    | nil => intro _ x hx; exact nomatch hx
    | @cons p q ps qs hq t ih =>
      intro kn x hx
      rcases List.mem_cons.mp hx with e | hx
      · subst e
        obtain ⟨k1, k2⟩ := kn p List.mem_cons_self
        rw [hq.1, hq.2.1] at k1
        rw [hq.1] at k2
        exact ⟨kd_is I _ _ _ k1 rfl, k2⟩
      · exact ih (fun p hp => kn p (List.mem_cons_of_mem _ hp)) x hx
  exact all r kn x hx
theorem entN_val {es : List Ent} {xs : List (NestedKey × Addr × Value)} (r : Paired (fun (p : Ent) (q : NestedKey × Addr × Value) => p.1 = q.1 ∧ p.2.1 = q.2.1 ∧ RelV p.2.2 q.2.2) es xs) (k : NestedKey) : RelO (valN es k) ((atKey xs k).map (·.2)) := by
  induction r with
  | nil => exact True.intro
  | @cons p q ps qs h t ih =>
    obtain ⟨h1, _, h2⟩ := h
    unfold valN atKey at *
    by_cases e : p.1 = k
    · have e' : q.1 = k := h1 ▸ e
      rw [List.find?_cons_of_pos (by simpa using e), List.find?_cons_of_pos (by simpa using e')]
      exact h2
    · have e' : ¬ q.1 = k := h1 ▸ e
      rw [List.find?_cons_of_neg (by simpa using e), List.find?_cons_of_neg (by simpa using e')]
      exact ih
def rInN (K : PySem.W.Frag) (P : Program) (w : World) (neg : Bool) : R2 := fun x y H Q => ∃ (a d : Addr) (k : NestedKey) (es : List Ent), x = .ref a ∧ y = .ref d ∧ Kd K H x k ∧ k.depth ≤ 8 ∧ H d = some (dN P w d es) ∧ KeysN K H es ∧ Q (.bl (if neg = true then !(valN es k).isSome else (valN es k).isSome)) H
theorem op_notInN (hu : X.A.units + 9 < cLine) : OpR X (compareOp .NotIn) (rInN X.K X.prog X.w true) := by
  intro pins s σ H x y v u Q I r1 r2 h
  obtain ⟨a, d, k, es, rfl, rfl, hk, hd, e, kn, q⟩ := h
  cases r1
  cases r2
  obtain ⟨h1, h2, xs, r, D⟩ := dN_rd I e kn
  refine wpAny_notIn_heap (knd := nestedKind X.prog X.w) (show X.A.in1.units + 8 < cLine by rw [Around.in1_units]; omega) ⟨kd_is I _ _ _ hk rfl, hd⟩ h1 D ?_
  have z := (entN_val r k).isSome_eq
  rw [Option.isSome_map] at z
  rw [← z]
  exact ⟨.bl _, H, I.tok _, rfl, q⟩
theorem op_inN (hu : X.A.units + 9 < cLine) : OpR X (compareOp .In) (rInN X.K X.prog X.w false) := by
  intro pins s σ H x y v u Q I r1 r2 h
  obtain ⟨a, d, k, es, rfl, rfl, hk, hd, e, kn, q⟩ := h
  cases r1
  cases r2
  obtain ⟨h1, h2, xs, r, D⟩ := dN_rd I e kn
  refine wpAny_in_heap (knd := nestedKind X.prog X.w) (show X.A.in1.units + 8 < cLine by rw [Around.in1_units]; omega) ⟨kd_is I _ _ _ hk rfl, hd⟩ h1 D ?_
  have z := (entN_val r k).isSome_eq
  rw [Option.isSome_map] at z
  rw [← z]
  exact ⟨.bl _, H, I.tok _, rfl, q⟩
def tNGet (K : PySem.W.Frag) (P : Program) (w : World) (td ty : TE) : TE := fun σ H Q => td σ H fun x H1 => ty σ H1 fun y H2 => ∃ (a d : Addr) (k : NestedKey) (es : List Ent) (v : V), x = .ref d ∧ y = .ref a ∧ Kd K H2 y k ∧ k.depth ≤ 8 ∧ H2 d = some (dN P w d es) ∧ KeysN K H2 es ∧ valN es k = some v ∧ Q v H2
theorem pe_nget {o i : Expr} {pos : Pos} {td ty : TE} (hu : X.A.units + 9 < cLine) (ho : PE X o td) (hi : PE X i ty) (hs : NoSl i) : PE X (.Subscript o i pos) (tNGet X.K X.prog X.w td ty) := by
  refine ⟨fun pins s σ H Q I h => ?_⟩
  refine subD_of PySem.F.slot_dict_getitem.lookup hs (thn (ho.run pins s σ H _ I h) fun u s1 ⟨x, H1, I1, rx, q1⟩ => thn (hi.run pins s1 σ H1 _ I1 q1) fun iv s2 ⟨y, H2, I2, ry, a, d, k, es, v, ex, ey, hk, hd, e, kn, l, q2⟩ => ?_)
  subst ex ey
  cases rx
  cases ry
  obtain ⟨h1, h2, xs, r, D⟩ := dN_rd I2 e kn
  refine ⟨D.typeIs, ?_⟩
  have z := entN_val r k
  rw [l] at z
  obtain ⟨w', hw, rw'⟩ := RelO.some_of (v := v) (o := (atKey xs k).map (·.2)) z
  obtain ⟨p, hp, hp2⟩ := Option.map_eq_some_iff.mp hw
  refine wpAny_getItem_heap (knd := nestedKind X.prog X.w) (show X.A.in1.units + 8 < cLine by rw [Around.in1_units]; omega) ⟨kd_is I2 _ _ _ hk rfl, hd⟩ D hp ?_
  rw [hp2]
  exact ⟨v, H2, I2.tok _, rw', q2⟩
/-- d[k] = v, k not yet there -/
def sNPut (K : PySem.W.Frag) (P : Program) (w : World) (td ty tv : TE) : TS := fun D σ H => tv σ H fun v H1 => td σ H1 fun x H2 => ty σ H2 fun y H3 => ∃ (a d : Addr) (k : NestedKey) (es : List Ent), x = .ref d ∧ y = .ref a ∧ Kd K H3 y k ∧ k.depth ≤ 8 ∧ H3 d = some (dN P w d es) ∧ KeysN K H3 es ∧ valN es k = none ∧ es.length < 1000000 ∧
  D.nx σ (upd H3 d (dN P w d (es ++ [(k, a, v)])))
theorem Paired.snoc {α β : Type} {F : α → β → Prop} {l₁ : List α} {l₂ : List β} (r : Paired F l₁ l₂) {a : α} {b : β} (h : F a b) : Paired F (l₁ ++ [a]) (l₂ ++ [b]) := by
  induction r with
  | nil => exact .cons h .nil
  | cons x t ih => exact .cons x ih
theorem ps_nput {o i value : Expr} {pos pos' : Pos} {td ty tv : TE} (hu : X.A.units + 9 < cLine) (ho : PE X o td) (hi : PE X i ty) (hv : PE X value tv) (hs : swapsWith value (some (.Subscript o i pos')) pos.line X.env = pure false) :
    PS X (.Assign [.Subscript o i pos'] value pos) (sNPut X.K X.prog X.w td ty tv) := by
  refine ⟨fun pins s σ H D I h => ?_⟩
  refine wpAny_Assign_Subscript (thn (hv.run pins s σ H _ I h) fun r s1 ⟨v, H1, I1, rv, q1⟩ => thn (ho.run pins s1 σ H1 _ I1 q1) fun u s2 ⟨x, H2, I2, rx, q2⟩ => thn (hi.run pins s2 σ H2 _ I2 q2) fun iv s3 ⟨y, H3, I3, ry, a, d, k, es, ex, ey, hk, hd, e, kn, l, hl, q3⟩ => ?_) hs
  subst ex ey
  cases rx
  cases ry
  obtain ⟨h1, h2, xs, rr, Dh⟩ := dN_rd I3 e kn
  have lz : es.length = xs.length := Paired.length rr
  have z := entN_val rr k
  rw [l] at z
  have hn : atKey xs k = none := by
    cases q : atKey xs k with
    | none => rfl
    | some p => rw [q] at z; exact z.elim
  refine wpAny_setItem_heap (knd := nestedKind X.prog X.w) (hsz := by rw [← lz, sizeLine_eq]; omega) (show X.A.in1.units + 8 < cLine by rw [Around.in1_units]; omega) ⟨kd_is I3 _ _ _ hk rfl, hd⟩ Dh fun h' dd' hs => ?_
  rw [storedH_new hn] at dd'
  obtain ⟨q, en, ep, hq, c2, c3, c4, _, c5⟩ := dd'
  refine ⟨σ, _, d_write I3 (by rw [e]; exact True.intro) hs ⟨q, hq⟩ (dN_ok ⟨h1, ?_, _, Paired.snoc rr ⟨rfl, rfl, rv⟩, q, en, ep, hq, c2, c3, c4, c5⟩), q3⟩
  rw [List.length_append, List.length_singleton, sizeLine_eq]
  omega
def tNNew (P : Program) (w : World) : TE := fun _ H Q => ∀ p, H p = none → Q (.ref p) (upd H p (dN P w p []))
theorem pe_nnew {pos : Pos} : PE X (.Dict [] [] pos) (tNNew X.prog X.w) := ⟨fun pins s σ H Q I h =>
  wpAny_Dict_empty ⟨.ref s.heap.objs.size, _, I.laid (a := s.heap.objs.size) (o := dN X.prog X.w s.heap.objs.size []) (t' := s.toks) (fun _ _ q => Heap.get?_push_of_some _ q) (Nat.le_refl _)
    (dN_ok ⟨beq_eq_false_iff_ne.mpr (Ne.symm (Nat.ne_of_lt I.big)), Nat.zero_le _, [], .nil, _, #[], 0, Heap.get?_push_size _ rfl, ⟨rfl, rfl, rfl⟩, rfl, rfl, List.nodup_nil⟩), rfl, h _ (I.hok.fresh (Nat.le_refl _))⟩⟩
end
end K4
namespace K4
open PySem PySem.Spec PyProof.Rows L2
variable {P : Program} {w : World} {K : PySem.W.Frag} {mg : Str → Option Value} {base : Heap}
/-! ### data as keys -/
def rK (r : List Int) : NestedKey := .tup (r.map .num)
def vK (v : Vec) : NestedKey := rK [v.1, v.2]
def cK : Ch → NestedKey
  | .bes i r => .tup [.text (bes i), rK r]
  | .as w => .tup [.text "as", .num (b2i w)]
  | .mov w v r => .tup [.text "moved", .num (b2i w), vK v, rK r]
  | .both v u r => .tup [.text "both", vK v, vK u, rK r]
def csK (cs : List Ch) : NestedKey := .tup (cs.map cK)
theorem kd_ints {H : Hp} : ∀ (r : List Int), KdAll K H (r.map V.int) (r.map .num)
  | [] => .nil
  | i :: r => .cons (.int i) (kd_ints r)
theorem kd_r {H : Hp} {a : Addr} {r : List Int} (h : SqT K H a (r.map V.int)) : Kd K H (.ref a) (rK r) := .tup h (kd_ints r)
theorem IsR.kd {H : Hp} {x : V} {r : List Int} (h : IsR K H x r) : Kd K H x (rK r) := by
  obtain ⟨a, rfl, h⟩ := h
  exact kd_r h
theorem IsV.kd {H : Hp} {x : V} {v : Vec} (h : IsV K H x v) : Kd K H x (vK v) := by
  obtain ⟨a, rfl, h⟩ := h
  exact kd_r (r := [v.1, v.2]) h
theorem bes_ok (i : Nat) : PyData.strOk (bes i) = true := by
  unfold bes
  split
  · decide +kernel
  · split
    · decide +kernel
    · split <;> decide +kernel
theorem ChX.kd {H : Hp} {xs : List V} {c : Ch} {a : Addr} (hs : SqT K H a xs) (h : ChX K H xs c) : Kd K H (.ref a) (cK c) := by
  cases c with
  | bes i r => obtain ⟨y, rfl, h⟩ := h; exact .tup hs (.cons (.str _ (bes_ok i)) (.cons h.kd .nil))
  | as w =>
    have h : xs = [.str "as", .int (b2i w)] := h
    subst h
    exact .tup hs (.cons (.str _ (by decide +kernel)) (.cons (.int _) .nil))
  | mov w v r => obtain ⟨x, y, rfl, h1, h2⟩ := h; exact .tup hs (.cons (.str _ (by decide +kernel)) (.cons (.int _) (.cons h1.kd (.cons h2.kd .nil))))
  | both v u r => obtain ⟨x, z, y, rfl, h1, h2, h3⟩ := h; exact .tup hs (.cons (.str _ (by decide +kernel)) (.cons h1.kd (.cons h2.kd (.cons h3.kd .nil))))
theorem IsCh.kd {H : Hp} {x : V} {c : Ch} (h : IsCh K H x c) : Kd K H x (cK c) := by
  obtain ⟨a, xs, rfl, h1, h2⟩ := h
  exact ChX.kd h1 h2
theorem IsCs.kd {H : Hp} {xs : List V} {cs : List Ch} (h : IsCs K H xs cs) : KdAll K H xs (cs.map cK) := by
  induction h with
  | nil => exact .nil
  | cons a b ih => exact .cons (IsCh.kd a) ih
theorem IsCt.kd {H : Hp} {x : V} {cs : List Ch} (h : IsCt K H x cs) : Kd K H x (csK cs) := by
  obtain ⟨a, xs, rfl, h1, h2⟩ := h
  exact .tup h1 h2.kd
theorem rK_all : ∀ (r : List Int), NestedKey.depthAll (r.map NestedKey.num) = 0
  | [] => rfl
  | i :: r => by
    show max (NestedKey.depth (.num i)) (NestedKey.depthAll (r.map NestedKey.num)) = 0
    rw [rK_all r]
    rfl
theorem rK_depth (r : List Int) : (rK r).depth = 1 := by
  show NestedKey.depthAll (r.map NestedKey.num) + 1 = 1
  rw [rK_all]
theorem cK_depth (c : Ch) : (cK c).depth = (match c with | .as _ => 1 | _ => 2) := by
  cases c <;> simp [cK, NestedKey.depth, NestedKey.depthAll, vK, rK_depth]
theorem cK_le (c : Ch) : (cK c).depth ≤ 2 := by
  rw [cK_depth]
  cases c <;> simp
theorem csK_all : ∀ (cs : List Ch), NestedKey.depthAll (cs.map cK) ≤ 2
  | [] => Nat.zero_le _
  | c :: cs => by
    show max (cK c).depth (NestedKey.depthAll (cs.map cK)) ≤ 2
    have h1 := cK_le c
    have h2 := csK_all cs
    omega
theorem csK_depth (cs : List Ch) : (csK cs).depth ≤ 3 := by
  have := csK_all cs
  show NestedKey.depthAll (cs.map cK) + 1 ≤ 3
  omega
theorem num_inj : ∀ {r s : List Int}, r.map NestedKey.num = s.map NestedKey.num → r = s
  | [], [], _ => rfl
  | [], _ :: _, h => nomatch h
  | _ :: _, [], h => nomatch h
  | a :: r, b :: s, h => by
    rw [List.map_cons, List.map_cons] at h
    injection h with h1 h2
    injection h1 with h1
    rw [h1, num_inj h2]
theorem rK_inj {r s : List Int} (h : rK r = rK s) : r = s := by
  unfold rK at h
  injection h with h
  exact num_inj h
theorem vK_inj {v u : Vec} (h : vK v = vK u) : v = u := by
  have h := rK_inj h
  obtain ⟨a, b⟩ := v
  obtain ⟨c, d⟩ := u
  simpa using h
theorem bes_inj {i j : Nat} (hi : i < 4) (hj : j < 4) (h : bes i = bes j) : i = j := by
  have key : ∀ a < 4, ∀ b < 4, bes a = bes b → a = b := by decide +kernel
  exact key i hi j hj h
theorem bes_not (i : Nat) : ¬ bes i = "as" ∧ ¬ bes i = "moved" ∧ ¬ bes i = "both" := by
  unfold bes
  split
  · decide +kernel
  · split
    · decide +kernel
    · split <;> decide +kernel
theorem b2i_inj {a b : Bool} (h : b2i a = b2i b) : a = b := by cases a <;> cases b <;> first | rfl | exact nomatch h
theorem cK_inj {reads : Nat} {c d : Ch} (hc : chOk reads c) (hd : chOk reads d) (h : cK c = cK d) : c = d := by
  cases c with
  | bes i r => cases d with
    | bes j s =>
      simp only [cK, NestedKey.tup.injEq, List.cons.injEq, NestedKey.text.injEq, and_true] at h
      rw [bes_inj hc.1 hd.1 h.1, rK_inj h.2]
    | as w => simp [cK, (bes_not i).1] at h
    | mov _ _ _ => simp [cK] at h
    | both _ _ _ => simp [cK] at h
  | as w => cases d with
    | bes j s =>
      simp only [cK, NestedKey.tup.injEq, List.cons.injEq, NestedKey.text.injEq, and_true] at h
      exact absurd h.1.symm (bes_not j).1
    | as w' =>
      simp only [cK, NestedKey.tup.injEq, List.cons.injEq, NestedKey.num.injEq, and_true, true_and] at h
      rw [b2i_inj h]
    | mov _ _ _ => simp [cK] at h
    | both _ _ _ => simp [cK] at h
  | mov w v r => cases d with
    | bes j s => simp [cK] at h
    | as w => simp [cK] at h
    | mov w' v' r' =>
      simp only [cK, NestedKey.tup.injEq, List.cons.injEq, NestedKey.num.injEq, and_true, true_and] at h
      rw [b2i_inj h.1, vK_inj h.2.1, rK_inj h.2.2]
    | both _ _ _ =>
      simp only [cK, NestedKey.tup.injEq, List.cons.injEq, NestedKey.text.injEq, and_true] at h
      exact absurd h.1 (by decide +kernel)
  | both v u r => cases d with
    | bes j s => simp [cK] at h
    | as w => simp [cK] at h
    | mov w' v' r' =>
      simp only [cK, NestedKey.tup.injEq, List.cons.injEq, NestedKey.text.injEq, and_true] at h
      exact absurd h.1 (by decide +kernel)
    | both v' u' r' =>
      simp only [cK, NestedKey.tup.injEq, List.cons.injEq, and_true, true_and] at h
      rw [vK_inj h.1, vK_inj h.2.1, rK_inj h.2.2]
theorem csK_inj {reads : Nat} : ∀ {cs ds : List Ch}, (∀ c ∈ cs, chOk reads c) → (∀ d ∈ ds, chOk reads d) → cs.map cK = ds.map cK → cs = ds
  | [], [], _, _, _ => rfl
  | [], _ :: _, _, _, h => nomatch h
  | _ :: _, [], _, _, h => nomatch h
  | a :: r, b :: s, h1, h2, h => by
    rw [List.map_cons, List.map_cons] at h
    injection h with e1 e2
    rw [cK_inj (h1 a List.mem_cons_self) (h2 b List.mem_cons_self) e1, csK_inj (fun c hc => h1 c (List.mem_cons_of_mem _ hc)) (fun d hd => h2 d (List.mem_cons_of_mem _ hd)) e2]
theorem csK_iff {reads m : Nat} {cs ds : List Ch} (h1 : allOk reads m cs) (h2 : allOk reads m ds) : csK cs = csK ds ↔ cs = ds :=
  ⟨fun h => csK_inj h1.2 h2.2 (by unfold csK at h; injection h), fun h => by rw [h]⟩
end K4
namespace K4
open PySem PySem.Spec PyProof.Rows L2
variable {P : Program} {w : World} {K : PySem.W.Frag} {mg : Str → Option Value} {base : Heap}
theorem trues_push (i : Nat) : List.replicate i (V.bl true) ++ [V.bl true] = List.replicate (i + 1) (V.bl true) := by rw [List.replicate_succ']
theorem trues_all (n : Nat) : (List.replicate n true).all id = true := by
  induction n with
  | zero => rfl
  | succ n ih => rw [List.replicate_succ, List.all_cons, ih]; rfl
/-- all(..) of n times True -/
theorem all_true {H : Hp} {D : Addr} {n : Nat} {Q : VK} (h : H D = some (.lst (List.replicate n (V.bl true)))) (q : Q (.bl true) H) : rAll K [V.ref D] H Q :=
  ⟨D, List.replicate n true, rfl, .inl (.inl (by rw [h, List.map_replicate])), by rw [trues_all]; exact q⟩
theorem n_size {n : Nat} (h : n ≤ 100000) : n < sizeLine := by rw [sizeLine_eq]; omega
def spIsVec (K : PySem.W.Frag) : Sp := fun vs H Q _ => ∃ (x : V) (v : Vec), vs = [x] ∧ IsV K H x v ∧ vecOk v ∧ ∀ H', Same H H' → Q (.bl true) H'
theorem sc_is_vector : FnScope ["thing", "part"] ["thing"] (defScope s_is_vector) := ⟨rfl, rfl, rfl, by decide +kernel, rfl, by decide +kernel, by decide +kernel⟩
theorem d_is_vector (B : Bt mg) (N : Ct mg) (D : Df K mg "is_vector" s_is_vector) (G : Dk P w K mg base CX0 1 "is_whole" ["thing", "least", "most"] spWhole) : Dk P w K mg base CX0 2 "is_vector" ["thing"] (spIsVec K) := by
  refine Dk.mk' D sc_is_vector (fun _ _ _ _ _ _ us hl => match us, hl with | [_], _ => rfl) (fun vs H Q E h => ?_) (fun cdv A outer s H vs Q E hr h => ?_)
  · obtain ⟨x, v, rfl, _⟩ := h
    rfl
  · obtain ⟨x, v, rfl, ⟨a, rfl, hs⟩, hv, q⟩ := h
    refine ⟨_, pss_cons (ps_if (PW.pt (pw_or (pt_not (pt_val (pB isa_tup B.isinstance (pa_cons (pv 0) (pa_cons (pe_ty "tuple" B.tuple) pa_nil))))) (pw_or1 (pt_cmpR op_ne (pB call_len B.len (pa_cons (pv 0) pa_nil)) pe_int (nomark _))))) pss_never pss_nil)
      (pss_one (ps_ret (pB (cr_all rfl) B.all (pa_cons (pe_lc (own := [("part", 1)]) (g := gName 1) (tt := tYes) rfl sc_is_vector.nd (pi_tup (pv 0)) (blkOk_by (N := ["thing", "part"]) (sc := defScope s_is_vector) (by decide +kernel)) (fun _ _ _ _ _ => pg_name (i := 1) sc_is_vector.nd rfl (Or.inl rfl)) (fun _ _ _ _ _ => pts_nil)
        (fun _ _ _ _ _ => pcall G hr (by decide) rfl (pa_cons (pv 1) (pa_cons (pe_un un_neg (pgI N.mostVector)) (pa_cons (pgI N.mostVector) pa_nil))))) pa_nil)))), ?_⟩
    refine ⟨_, rfl, _, rfl, ⟨a, _, rfl, hs⟩, _, rfl, iteF ?_⟩
    refine ⟨_, rfl, _, _, rfl, .inr ⟨_, hs, rfl⟩, rfl, _, rfl, iteF ?_⟩
    refine ⟨_, rfl, a, rfl, ⟨_, hs⟩, fun D hD => lc_tup (xs := [.int v.1, .int v.2]) (fun i H' => H' D = some (.lst (List.replicate i (V.bl true))) ∧ Same H H') ⟨upd_same, Same.new hD⟩ (fun i H' _ p => p.2.seqT hs) ?_ ?_⟩
    · rintro i x H' hx ⟨hl, hsm⟩
      obtain ⟨z, rfl, hz⟩ : ∃ z, x = V.int z ∧ -32 ≤ z ∧ z ≤ 32 := by
        obtain ⟨v1, v2, v3, v4⟩ := hv
        match i, hx with
        | 0, hx => exact ⟨v.1, (Option.some.inj hx).symm, v1, v2⟩
        | 1, hx => exact ⟨v.2, (Option.some.inj hx).symm, v3, v4⟩
      have hi : i < 2 := (List.getElem?_eq_some_iff.mp hx).1
      refine ⟨rfl, ?_⟩
      refine ⟨_, rfl, 32, rfl, z, -32, 32, rfl, hz.1, hz.2, _, hl, by rw [List.length_replicate]; exact n_size (by omega), ?_, hsm.more hD⟩
      rw [upd_same, trues_push]
    · rintro H' ⟨hl, hsm⟩
      exact all_true hl (q _ hsm)
def spIsRest (K : PySem.W.Frag) : Sp := fun vs H Q _ => ∃ (x : V) (r : List Int), vs = [x] ∧ IsR K H x r ∧ restOk r ∧ ∀ H', Same H H' → Q (.bl true) H'
theorem sc_is_rest : FnScope ["thing", "number"] ["thing"] (defScope s_is_rest) := ⟨rfl, rfl, rfl, by decide +kernel, rfl, by decide +kernel, by decide +kernel⟩
theorem d_is_rest (B : Bt mg) (N : Ct mg) (D : Df K mg "is_rest" s_is_rest) (G : Dk P w K mg base CX0 1 "is_whole" ["thing", "least", "most"] spWhole) : Dk P w K mg base CX0 2 "is_rest" ["thing"] (spIsRest K) := by
  refine Dk.mk' D sc_is_rest (fun _ _ _ _ _ _ us hl => match us, hl with | [_], _ => rfl) (fun vs H Q E h => ?_) (fun cdv A outer s H vs Q E hr h => ?_)
  · obtain ⟨x, v, rfl, _⟩ := h
    rfl
  · obtain ⟨x, r, rfl, ⟨a, rfl, hs⟩, hv, q⟩ := h
    refine ⟨_, pss_cons (ps_if (PW.pt (pw_or (pt_not (pt_val (pB isa_tup B.isinstance (pa_cons (pv 0) (pa_cons (pe_ty "tuple" B.tuple) pa_nil))))) (pw_or1 (pt_cmpR op_ne (pB call_len B.len (pa_cons (pv 0) pa_nil)) pe_int (nomark _))))) pss_never pss_nil)
      (pss_one (ps_ret (pB (cr_all rfl) B.all (pa_cons (pe_lc (own := [("number", 1)]) (g := gName 1) (tt := tYes) rfl sc_is_rest.nd (pi_tup (pv 0)) (blkOk_by (N := ["thing", "number"]) (sc := defScope s_is_rest) (by decide +kernel)) (fun _ _ _ _ _ => pg_name (i := 1) sc_is_rest.nd rfl (Or.inl rfl)) (fun _ _ _ _ _ => pts_nil)
        (fun _ _ _ _ _ => pcall G hr (by decide) rfl (pa_cons (pv 1) (pa_cons (pe_un un_neg (pgI N.mostRest)) (pa_cons (pgI N.mostRest) pa_nil))))) pa_nil)))), ?_⟩
    refine ⟨_, rfl, _, rfl, ⟨a, _, rfl, hs⟩, _, rfl, iteF ?_⟩
    refine ⟨_, rfl, _, _, rfl, .inr ⟨_, hs, rfl⟩, rfl, _, rfl, ?_⟩
    rw [List.length_map, hv.1]
    refine iteF ?_
    refine ⟨_, rfl, a, rfl, ⟨_, hs⟩, fun D hD => lc_tup (xs := r.map V.int) (fun i H' => H' D = some (.lst (List.replicate i (V.bl true))) ∧ Same H H') ⟨upd_same, Same.new hD⟩ (fun i H' _ p => p.2.seqT hs) ?_ ?_⟩
    · rintro i x H' hx ⟨hl, hsm⟩
      have hi : i < 16 := by
        have := (List.getElem?_eq_some_iff.mp hx).1
        rw [List.length_map, hv.1] at this
        exact this
      obtain ⟨z, rfl, hz⟩ : ∃ z, x = V.int z ∧ -4000 ≤ z ∧ z ≤ 4000 := by
        rw [List.getElem?_map] at hx
        obtain ⟨z, hz, e⟩ := Option.map_eq_some_iff.mp hx
        have h2 := hv.2 i
        rw [List.getD_eq_getElem?_getD, hz] at h2
        exact ⟨z, e.symm, h2⟩
      refine ⟨rfl, ?_⟩
      refine ⟨_, rfl, 4000, rfl, z, -4000, 4000, rfl, hz.1, hz.2, _, hl, by rw [List.length_replicate]; exact n_size (by omega), ?_, hsm.more hD⟩
      rw [upd_same, trues_push]
    · rintro H' ⟨hl, hsm⟩
      exact all_true hl (q _ hsm)
end K4
namespace K4
open PySem PySem.Spec PyProof.Rows L2
/-! ### tuples that hold no dict -/
def NdT (K : PySem.W.Frag) (H : Hp) (a : Addr) : Prop := (∃ o, K.lookup a = some o ∧ o.cls = .type "tuple" ∧ o.dict = none) ∨ ∃ o u, H a = some (.frz o u) ∧ o.cls = .type "tuple" ∧ o.dict = none
theorem NdT.same {K : PySem.W.Frag} {H H' : Hp} {a : Addr} (s : Same H H') (h : NdT K H a) : NdT K H' a := by
  rcases h with h | ⟨o, u, e, r⟩
  · exact .inl h
  · exact .inr ⟨o, u, s _ _ e, r⟩
section
variable {X : Cx} {pins : List (Addr × Obj)} {σ : L2.St} {H : Hp} {s : Shared}
theorem ndt_is {a : Addr} (I : Inv X pins σ H s) (h : NdT X.K H a) : s.TypeIs (.ref a) "tuple" ∧ ∀ b, Value.ref a = .ref b → ∃ ob, s.heap.get? b = some ob ∧ ob.dict = none := by
  rcases h with ⟨o, hk, hc, hd⟩ | ⟨o, u, e, hc, hd⟩
  · exact tyV_is (T := "tuple") (x := .ref a) I rfl (.inr (.inl ⟨rfl, o, hk, hc, hd⟩))
  · obtain ⟨g, _⟩ := (show ObjOk X.prog X.w H s.heap a (.frz o u) from I.hok a _ e)
    exact ⟨⟨o, g, hc⟩, fun b q => by cases q; exact ⟨o, g, hd⟩⟩
def rCatF (K : PySem.W.Frag) : R2 := fun x y H Q => ∃ a b xs ys, x = .ref a ∧ y = .ref b ∧ SqT K H a xs ∧ SqT K H b ys ∧ xs ≠ [] ∧ xs.length + ys.length ≤ sizeLine ∧
  (ys = [] → Q (.ref a) H) ∧ (ys ≠ [] → ∀ p o, H p = none → o.cls = .type "tuple" → o.dict = none → Q (.ref p) (upd H p (.frz o (.tup (xs ++ ys)))))
theorem op_catF : OpR X (binaryOp .Add) (rCatF X.K) := by
  intro pins s σ H x y v u Q I rx ry h
  obtain ⟨a, b, xs, ys, rfl, rfl, ha, hb, hx, hz, q1, q2⟩ := h
  cases rx
  cases ry
  obtain ⟨its, r1, p1, _⟩ := I.tuple ha
  obtain ⟨its2, r2, p2, _⟩ := I.tuple hb
  have l1 := r1.length
  have l2 := r2.length
  refine HT.cat_tup p1 p2 (fun e => hx (List.length_eq_zero_iff.mp (by rw [l1, e]; rfl))) (fun e => ⟨.ref a, H, I, rfl, q1 (List.length_eq_zero_iff.mp (by rw [l2, e]; rfl))⟩) (fun e => ?_) (by omega)
  have hn := I.hok.fresh (Nat.le_refl s.heap.objs.size)
  have hg : (s.heap.push { cls := .type "tuple", data := .seq (its ++ its2).toArray }).get? s.heap.objs.size = some { cls := .type "tuple", data := .seq (its ++ its2).toArray } := Heap.get?_push_size _ rfl
  refine ⟨.ref s.heap.objs.size, _, I.laid (o := .frz { cls := .type "tuple", data := .seq (its ++ its2).toArray } (.tup (xs ++ ys))) (t' := s.toks) (fun b o q => Heap.get?_push_of_some _ q) (Nat.le_refl _) ⟨hg, by rw [List.length_append]; exact hz, its ++ its2, r1.append r2, ⟨_, hg, rfl, _, rfl⟩⟩, rfl, q2 (fun z => e (List.length_eq_zero_iff.mp (by rw [← l2, z]; rfl))) _ _ hn rfl rfl⟩
def tTI (K : PySem.W.Frag) (to : TE) (t : TA) : TE := fun σ H Q => to σ H fun x H1 => (∃ a, x = .ref a ∧ NdT K H1 a) ∧ t σ H1 fun xs H2 => ∃ p, ∃ ys : List Str, ∃ z j, x = .ref p ∧ xs = [.str z] ∧ SqT K H2 p (ys.map V.str) ∧ ys[j]? = some z ∧ (∀ m, m < j → ys[m]? ≠ some z) ∧ Q (.int (j : Nat)) H2
theorem pe_tidx {o e : Expr} {es : List Expr} {to : TE} {t : TA} {apos cpos : Pos} (ho : PE X o to) (ha : PA X (e :: es) t)
    (hbase : attributeBase o "index" X.env (eval o X.env) = eval o X.env := by rfl)
    (hfew : ((backTo cpos (starEach (e :: es) X.env)).all (fun x => !x.1) && (backToKw cpos (keywordEach [] X.env)).all (fun x => x.1.isSome)
      && decide ((e :: es).length + ([] : List Keyword).length + (if ([] : List Keyword).isEmpty then 0 else 1) < 30)) = true := by rfl)
    (hline : (apos.endLine == cpos.line) = true := by rfl) (hs : starEach (e :: es) X.env = (false, eval e X.env) :: starEach es X.env := by rfl) (hplain : (backTo cpos (starEach es X.env)).any (·.1) = false := by rfl) :
    PE X (.Call (.Attribute o "index" apos) (e :: es) [] cpos) (tTI X.K to t) := by
  refine ⟨fun pins s σ H Q I h => ?_⟩
  refine wpAny_Call_method_late hbase hfew hline rfl (thn (ho.run pins s σ H _ I h) fun v s1 ⟨x, H1, I1, r1, ⟨a, ex, nd⟩, q1⟩ => ?_)
  subst ex
  obtain rfl : v = Value.ref a := r1
  obtain ⟨h1, h2⟩ := ndt_is I1 nd
  refine ⟨"tuple", _, PySem.F.plainAttrs_tuple, PySem.F.slot_tuple_index, PySem.F.type_tuple_index, h1, h2, ?_⟩
  have hA := ha.run cpos pins s1 σ H1 _ I1 q1
  rw [hs] at hA ⊢
  refine Calls.callWith_builtin (by show (false || (backTo cpos (starEach es X.env)).any (·.1)) = false; rw [hplain] <;> rfl) (Calls.evalArgs_plain ?_)
  exact thn hA fun us s2 ⟨vs, H2, I2, r2, q2⟩ => mt_tup_index pins s2 σ H2 (.ref a) vs _ us Q I2 rfl r2 q2
end
end K4
namespace K4
open PySem PySem.Spec PyProof.Rows L2
variable {P : Program} {w : World} {K : PySem.W.Frag} {mg : Str → Option Value} {base : Heap}
theorem room64 {k : Nat} {A : Around} (r : Room k A) : A.units + 64 < cLine := by have := r.un; omega
theorem room9 {k : Nat} {A : Around} (r : Room k A) : A.units + 9 < cLine := by have := r.un; omega
theorem room1 {k : Nat} {A : Around} (r : Room k A) : A.units + 1 < cLine := by have := r.un; omega
section
variable {X : Cx}
theorem pgR {a : Addr} {x : Str} {pos : Pos} (h : X.mg x = some (.ref a)) (hg : Gl X x := by rfl) (hd : (x == ("__debug__" : Str)) = false := by decide) : PE X (.Name x pos) (tC (.ref a)) := pe_glob hg h rfl hd
def tKdGet (K : PySem.W.Frag) (d : Addr) (td ty : TE) : TE := fun σ H Q => td σ H fun x H1 => ty σ H1 fun y H2 => ∃ (z : Str) (u0 : Value) (v0 : V), x = .ref d ∧ y = .str z ∧ PySem.W.nsIn K d z = some (some u0) ∧ RelV v0 u0 ∧ Q v0 H2
theorem pe_kdget {d : Addr} {es : Array DictEntry} {n : Nat} {o i : Expr} {pos : Pos} {td ty : TE} (D : KDict X.K X.w d es n) (ho : PE X o td) (hi : PE X i ty) (hs : NoSl i) : PE X (.Subscript o i pos) (tKdGet X.K d td ty) := by
  refine ⟨fun pins s σ H Q I h => ?_⟩
  refine subD_of PySem.F.slot_dict_getitem.lookup hs (thn (ho.run pins s σ H _ I h) fun u s1 ⟨x, H1, I1, rx, q1⟩ => thn (hi.run pins s1 σ H1 _ I1 q1) fun iv s2 ⟨y, H2, I2, ry, z, u0, v0, ex, ey, hn, r0, q2⟩ => ?_)
  subst ex ey
  obtain rfl : u = Value.ref d := rx
  exact ⟨kd_type D I2, op_item_kd D pins s2 σ H2 (.ref d) (.str z) _ _ Q I2 rfl ry ⟨z, u0, v0, rfl, rfl, hn, r0, q2⟩⟩
end
/-! ### kinds_for -/
def kindsL (reads : Nat) : List Str := match reads with
  | 0 => ["flat", "left", "above", "slope"]
  | 1 => ["flat", "left", "above", "slope", "as", "moved"]
  | _ => ["flat", "left", "above", "slope", "as", "moved", "both"]
/-- the module's tuples, its dict -/
structure Tb (K : PySem.W.Frag) (w : World) (mg : Str → Option Value) : Prop where
  beside : ∃ a, mg "BESIDE" = some (.ref a) ∧ (∃ o, K.lookup a = some o ∧ o.cls = .type "tuple" ∧ o.dict = none) ∧ ∀ H, SqT K H a [.str "flat", .str "left", .str "above", .str "slope"]
  noRest : ∃ a, mg "NO_REST" = some (.ref a) ∧ ∀ H, SqT K H a ((List.replicate 16 (0 : Int)).map V.int)
  order : ∃ a, mg "ORDER" = some (.ref a) ∧ ∀ H, SqT K H a (([0, 1, 4, 8, 5, 2, 3, 6, 9, 12, 13, 10, 7, 11, 14, 15] : List Int).map V.int)
  forms : ∃ d es n, mg "FORMS" = some (.ref d) ∧ KDict K w d es n ∧ ∀ p ∈ ([("flat", "s"), ("left", "s"), ("above", "s"), ("slope", "s"), ("as", "r"), ("moved", "rvs"), ("both", "vvs")] : List (Str × Str)), ∃ u, PySem.W.nsIn K d p.1 = some (some u) ∧ RelV (.str p.2) u
def spKinds (K : PySem.W.Frag) : Sp := fun vs H Q _ => ∃ reads : Nat, vs = [.int reads] ∧ reads ≤ 2 ∧ ∀ a H', Same H H' → SqT K H' a ((kindsL reads).map V.str) → NdT K H' a → Q (.ref a) H'
theorem sc_kinds_for : FnScope ["reads"] ["reads"] (defScope s_kinds_for) := ⟨rfl, rfl, rfl, by decide +kernel, rfl, by decide +kernel, by decide +kernel⟩

theorem cut0 : cutV [.str "as", .str "moved", .str "both"] none (some 0) = [] := rfl
theorem cut1 : cutV [.str "as", .str "moved", .str "both"] none (some 2) = [.str "as", .str "moved"] := rfl
theorem six0 : HT.sIx 3 3 (some 0) = 0 := rfl
theorem six1 : HT.sIx 3 3 (some 2) = 2 := rfl
theorem six2 : HT.sIx 3 3 (some 3) = 3 := rfl
theorem d_kinds_for (T : Tb K w mg) (D : Df K mg "kinds_for" s_kinds_for) : Dk P w K mg base CX0 1 "kinds_for" ["reads"] (spKinds K) := by
  refine Dk.mk' D sc_kinds_for (fun _ _ _ _ _ _ us hl => match us, hl with | [_], _ => rfl) (fun vs H Q E h => ?_) (fun cdv A outer s H vs Q E hr h => ?_)
  · obtain ⟨x, rfl, _⟩ := h
    rfl
  · obtain ⟨reads, rfl, h2, q⟩ := h
    obtain ⟨b, gb, hbd, hb⟩ := T.beside
    refine ⟨_, pss_one (ps_ret (pe_op op_catF (pgR gb) (pe_slice sl_tupA (pe_tup (pa_cons pe_str (pa_cons pe_str (pa_cons pe_str pa_nil)))) po_none (po_some (pe_ix ix_list (pe_lst (pa_cons pe_int (pa_cons pe_int (pa_cons pe_int pa_nil)))) (pv 0) (fun _ _ => rfl)))))), ?_⟩
    refine ⟨by show 3 ≤ sizeLine; decide, fun p hp => ⟨by show 3 ≤ sizeLine; decide, fun l hl => ?_⟩⟩
    have npl : p ≠ l := fun e => by rw [← e, upd_same] at hl; cases hl
    have s1 : Same H (upd (upd H p (.tup [.str "as", .str "moved", .str "both"])) l (.lst [.int 0, .int 2, .int 3])) := (Same.new hp).trans (Same.new hl)
    have hs : SqT K (upd (upd H p (.tup [.str "as", .str "moved", .str "both"])) l (.lst [.int 0, .int 2, .int 3])) p [.str "as", .str "moved", .str "both"] := .inl (.inl (by rw [upd_ne npl]; exact upd_same))
    have hl2 : upd (upd H p (.tup [.str "as", .str "moved", .str "both"])) l (.lst [.int 0, .int 2, .int 3]) l = some (.lst [.int 0, .int 2, .int 3]) := upd_same
    generalize upd (upd H p (.tup [.str "as", .str "moved", .str "both"])) l (.lst [.int 0, .int 2, .int 3]) = H2 at s1 hs hl2
    rcases (show reads = 0 ∨ reads = 1 ∨ reads = 2 by omega) with rfl | rfl | rfl
    · refine ⟨_, rfl, l, _, 0, V.int 0, rfl, rfl, .inl (.inl hl2), atI_nat (j := 0) rfl, 0, rfl, p, _, rfl, hs, fun hw => ?_, fun _ t ht => ?_⟩
      · exact absurd hw.2 (by decide)
      · exact ⟨b, t, _, [], rfl, rfl, hb _, .inl (.inl (by rw [upd_same, cut0])), by simp, by show 4 ≤ sizeLine; decide, fun _ => q b _ (s1.trans (Same.new ht)) (hb _) (.inl hbd), fun z => absurd rfl z⟩
    · refine ⟨_, rfl, l, _, 1, V.int 2, rfl, rfl, .inl (.inl hl2), atI_nat (j := 1) rfl, 2, rfl, p, _, rfl, hs, fun hw => ?_, fun _ t ht => ?_⟩
      · exact absurd hw.2 (by decide)
      · exact ⟨b, t, _, [.str "as", .str "moved"], rfl, rfl, hb _, .inl (.inl (by rw [upd_same, cut1])), by simp, by show 6 ≤ sizeLine; decide, fun z => absurd z (List.cons_ne_nil _ _), fun _ u o hu hc hd => q u _ ((s1.trans (Same.new ht)).trans (Same.new hu)) (.inl (.inr ⟨o, upd_same⟩)) (.inr ⟨o, _, upd_same, hc, hd⟩)⟩
    · refine ⟨_, rfl, l, _, 2, V.int 3, rfl, rfl, .inl (.inl hl2), atI_nat (j := 2) rfl, 3, rfl, p, _, rfl, hs, fun _ => ?_, fun hw => ?_⟩
      · exact ⟨b, p, _, _, rfl, rfl, hb _, hs, by simp, by show 7 ≤ sizeLine; decide, fun z => absurd z (List.cons_ne_nil _ _), fun _ u o hu hc hd => q u _ (s1.trans (Same.new hu)) (.inl (.inr ⟨o, upd_same⟩)) (.inr ⟨o, _, upd_same, hc, hd⟩)⟩
      · exact absurd ⟨rfl, rfl⟩ hw
end K4
namespace K4
open PySem PySem.Spec PyProof.Rows L2
/-! ### the head: what it reads besides the kit's facts -/
def oexCls (K : PySem.W.Frag) (C : Addr) : Bool := match K.lookup C with
  | some ⟨.type "type", _, .cls cd, sl⟩ => (match cd.mro, sl.toList with
    | .ref C' :: bm, [_, _, _, _, some (.builtin n), _] => C' == C && n == "ValueError.__new__" && !cd.hasDel && cd.hasDict && PySem.HandSPX.refsVE bm
    | _, _ => false)
  | _ => false
theorem oexCls_ok {K : PySem.W.Frag} {C : Addr} (q : oexCls K C = true) : ∃ nm q N bs bm sn sub ab col dd k0 k1 k2 k3 k5, K.lookup C = some (excClassObj nm q C N bs bm true sn sub ab col dd k0 k1 k2 k3 k5 "ValueError.__new__") ∧ PySem.HandSPX.refsVE bm = true := by
  unfold oexCls at q
  split at q
  · rename_i dd cd sl ho
    split at q
    · rename_i C' bm k0 k1 k2 k3 n k5 hm hs
      simp only [Bool.and_eq_true, beq_iff_eq, Bool.not_eq_true'] at q
      obtain ⟨⟨⟨⟨rfl, rfl⟩, hdel⟩, hd⟩, hv⟩ := q
      obtain ⟨nm, bs, mro, ns, qn, hdc, sn, sub, ab, col, del⟩ := cd
      dsimp only at hm hdel hd
      subst hm hdel hd
      have hsl : sl = #[k0, k1, k2, k3, some (.builtin "ValueError.__new__"), k5] := by
        obtain ⟨l⟩ := sl
        simp only at hs
        rw [hs]
      subst hsl
      exact ⟨nm, qn, ns, bs, bm, sn, sub, ab, col, dd, k0, k1, k2, k3, k5, ho, hv⟩
    · cases q
  · cases q
def crB (K : PySem.W.Frag) (C : Addr) (m : Str) (u : Value) : Bool := PySem.W.readsIn K C (.type "type") && (decide (PySem.W.specialIn K (.ref C) "__getattribute__" = some (some (.builtin "type.__getattribute__"))) && (match PySem.W.findCls K (.ref C) (.type "type") m with
  | some (.val v) => decide (v = u)
  | _ => false))
theorem crB_ok {K : PySem.W.Frag} {C : Addr} {m : Str} {u : Value} (h : crB K C m u = true) : Cr K C m u := by
  unfold crB at h
  obtain ⟨h1, h⟩ := Bool.and_eq_true_iff.mp h
  obtain ⟨h2, h3⟩ := Bool.and_eq_true_iff.mp h
  refine ⟨h1, of_decide_eq_true h2, ?_⟩
  cases e : PySem.W.findCls K (.ref C) (.type "type") m with
  | none => rw [e] at h3; cases h3
  | some z =>
    rw [e] at h3
    cases z with
    | val v => rw [of_decide_eq_true h3]
    | _ => cases h3
/-- a module's tuple without a dict -/
def tupN (K : PySem.W.Frag) (x : Str) : Bool := match K.lookup (He.ga K x) with
  | some ⟨.type c, none, _, _⟩ => decide (c = "tuple")
  | _ => false
theorem tupN_ok {K : PySem.W.Frag} {x : Str} (h : tupN K x = true) : ∃ o, K.lookup (He.ga K x) = some o ∧ o.cls = .type "tuple" ∧ o.dict = none := by
  unfold tupN at h
  cases q : K.lookup (He.ga K x) with
  | none =>
    rw [q] at h
    cases h
  | some o =>
    obtain ⟨oc, od, dt, sl⟩ := o
    rw [q] at h
    cases oc with
    | type c =>
      cases od with
      | none => exact ⟨_, rfl, congrArg Value.type (of_decide_eq_true h), rfl⟩
      | some d => cases h
    | _ => cases od <;> cases h
def besideD : List He.Dv := [.str "flat", .str "left", .str "above", .str "slope"]
def noRestD : List He.Dv := List.replicate 16 (.int 0)
def orderD : List He.Dv := [.int 0, .int 1, .int 4, .int 8, .int 5, .int 2, .int 3, .int 6, .int 9, .int 12, .int 13, .int 10, .int 7, .int 11, .int 14, .int 15]
def formsD : List (Str × He.Dv) := [("flat", .str "s"), ("left", .str "s"), ("above", .str "s"), ("slope", .str "s"), ("as", .str "r"), ("moved", .str "rvs"), ("both", .str "vvs")]
def blB (K : PySem.W.Frag) : Bool := oexCls K (He.ga K "BadLetters") && (decide (PySem.W.findIn K (.ref (He.ga K "BadLetters")) "__setattr__" = some (some (.builtin "object.__setattr__"))) && (decide (PySem.W.subIn K (.ref (He.ga K "BadLetters")) (.type "BaseException") = some true) &&
  (decide (PySem.W.typeIn K (.ref (He.ga K "BadLetters")) = some (.type "type")) && (PySem.W.keepIn K (.ref (He.ga K "BadLetters")) && (xfB K (He.ga K "BadLetters") &&
  (decide (PySem.W.findIn K (.ref (He.ga K "BadLetters")) "__init__" = some (some (.ref (He.ma K (He.ga K "BadLetters") "__init__")))) && decide (PySem.W.typeIn K (.ref (He.ma K (He.ga K "BadLetters") "__init__")) = some (.type "function"))))))))
structure BlF (K : PySem.W.Frag) : Prop where
  ox : OexC K (He.ga K "BadLetters")
  xf : XfC K (He.ga K "BadLetters")
  ini : PySem.W.findIn K (.ref (He.ga K "BadLetters")) "__init__" = some (some (.ref (He.ma K (He.ga K "BadLetters") "__init__")))
  ty : PySem.W.typeIn K (.ref (He.ma K (He.ga K "BadLetters") "__init__")) = some (.type "function")
theorem blB_ok {K : PySem.W.Frag} (h : blB K = true) : BlF K := by
  obtain ⟨h1, h⟩ := Bool.and_eq_true_iff.mp h
  obtain ⟨h2, h⟩ := Bool.and_eq_true_iff.mp h
  obtain ⟨h3, h⟩ := Bool.and_eq_true_iff.mp h
  obtain ⟨h4, h⟩ := Bool.and_eq_true_iff.mp h
  obtain ⟨h5, h⟩ := Bool.and_eq_true_iff.mp h
  obtain ⟨h6, h⟩ := Bool.and_eq_true_iff.mp h
  obtain ⟨h7, h8⟩ := Bool.and_eq_true_iff.mp h
  exact ⟨⟨oexCls_ok h1, of_decide_eq_true h2, of_decide_eq_true h3, of_decide_eq_true h4, h5⟩, xfB_ok h6, of_decide_eq_true h7, of_decide_eq_true h8⟩
def crsB (K : PySem.W.Frag) : Bool := crB K (He.ga K "ShownError") "__init__" (.builtin "ValueError.__init__") && crB K (He.ga K "Coder") "__init__" (.ref (He.ma K (He.ga K "Coder") "__init__"))
def tupsB (K : PySem.W.Frag) : Bool := He.tupB K "BESIDE" besideD && (tupN K "BESIDE" && (He.tupB K "NO_REST" noRestD && (He.tupB K "ORDER" orderD && He.valsB K (He.ga K "FORMS") formsD)))
def exHd (K : PySem.W.Frag) : Bool := blB K && (crsB K && tupsB K)
theorem tb_of {K : PySem.W.Frag} {w : World} {mg : Str → Option Value} (h : tupsB K = true) (g1 : mg "BESIDE" = some (.ref (He.ga K "BESIDE"))) (g2 : mg "NO_REST" = some (.ref (He.ga K "NO_REST"))) (g3 : mg "ORDER" = some (.ref (He.ga K "ORDER"))) (g4 : mg "FORMS" = some (.ref (He.ga K "FORMS")))
    (kd : ∃ es n, KDict K w (He.ga K "FORMS") es n) : Tb K w mg := by
  obtain ⟨h1, h⟩ := Bool.and_eq_true_iff.mp h
  obtain ⟨h2, h⟩ := Bool.and_eq_true_iff.mp h
  obtain ⟨h3, h⟩ := Bool.and_eq_true_iff.mp h
  obtain ⟨h4, h5⟩ := Bool.and_eq_true_iff.mp h
  obtain ⟨es, n, kd⟩ := kd
  refine ⟨⟨_, g1, tupN_ok h2, fun H => He.tupB_ok h1 H⟩, ⟨_, g2, fun H => He.tupB_ok h3 H⟩, ⟨_, g3, fun H => He.tupB_ok h4 H⟩, ⟨_, es, n, g4, kd, fun p hp => ?_⟩⟩
  have hv := fun {q : Str × He.Dv} (hq : q ∈ formsD) => He.valsB_ok h5 hq
  simp only [List.mem_cons, List.not_mem_nil, or_false] at hp
  rcases hp with rfl | rfl | rfl | rfl | rfl | rfl | rfl
  · exact hv (q := ("flat", .str "s")) (.head _)
  · exact hv (q := ("left", .str "s")) (.tail _ (.head _))
  · exact hv (q := ("above", .str "s")) (.tail _ (.tail _ (.head _)))
  · exact hv (q := ("slope", .str "s")) (.tail _ (.tail _ (.tail _ (.head _))))
  · exact hv (q := ("as", .str "r")) (.tail _ (.tail _ (.tail _ (.tail _ (.head _)))))
  · exact hv (q := ("moved", .str "rvs")) (.tail _ (.tail _ (.tail _ (.tail _ (.tail _ (.head _))))))
  · exact hv (q := ("both", .str "vvs")) (.tail _ (.tail _ (.tail _ (.tail _ (.tail _ (.tail _ (.head _)))))))
end K4
set_option maxHeartbeats 0
namespace K4
open PySem PySem.Spec PyProof.Rows L2
/-! ### the head: what is looked at, and the run of the top -/
def dd (x : Str) (s : Stmt) : He.DefD := ⟨(x, none), x, x, defArgs s, defBody s, defScope s, [], []⟩
def dm (C m q : Str) (s : Stmt) : He.DefD := ⟨(C, some m), m, q, defArgs s, defBody s, defScope s, [], []⟩
def hFn0 : List He.DefD := [dd "is_whole" s_is_whole, dd "is_list" s_is_list, dd "is_side" s_is_side, dd "is_letter" s_is_letter, dd "kinds_for" s_kinds_for, dd "is_vector" s_is_vector, dd "is_rest" s_is_rest, dd "is_part" s_is_part, dd "is_choice" s_is_choice, dd "are_choices" s_are_choices, dd "first_vector" s_first_vector, dd "signs_in" s_signs_in, dd "lower_signs" s_lower_signs, dd "letters_in" s_letters_in, dd "need_sign" s_need_sign, dd "middle" s_middle, dd "guessed_vector" s_guessed_vector, dd "vector_part" s_vector_part, dd "write_vector" s_write_vector, dd "write_rest" s_write_rest, dd "write_choice" s_write_choice, dd "read_vector" s_read_vector, dd "read_rest" s_read_rest, dd "read_choice" s_read_choice, dd "need_size" s_need_size, dd "letters_of" s_letters_of, dd "read_choices" s_read_choices, dd "first_unlike" s_first_unlike, dd "choices_of" s_choices_of, dd "_law_begin" s_law_begin]
def hFn1 : List He.DefD := [dd "_law_more" s_law_more, dd "_law_next" s_law_next, dd "_law_pick" s_law_pick, dd "_law_vector" s_law_vector, dd "_law_coder" s_law_coder, dd "_law_sign" s_law_sign, dd "_law_power" s_law_power, dd "_law_number" s_law_number, dd "_law_counts_by" s_law_counts_by, dd "_law_told_vector" s_law_told_vector, dd "_law_told_rest" s_law_told_rest, dd "_law_told" s_law_told, dd "_law_all_told" s_law_all_told, dd "_law_told_of" s_law_told_of, dd "_law_read" s_law_read, dd "_law_rows_of" s_law_rows_of, dd "_law_is_theirs" s_law_is_theirs, dd "_law_right" s_law_right, dd "law" s_law, dm "Writer" "chance_of" "Coder.chance_of" sm_Coder_chance_of, dm "Writer" "learn" "Coder.learn" sm_Coder_learn, dm "Writer" "narrowed" "Coder.narrowed" sm_Coder_narrowed, dm "Writer" "came" "Coder.came" sm_Coder_came, dm "Writer" "bit" "Writer.bit" sm_Writer_bit, dm "Writer" "even" "Writer.even" sm_Writer_even, dm "Writer" "number" "Writer.number" sm_Writer_number, dm "Writer" "letters" "Writer.letters" sm_Writer_letters, dm "Reader" "chance_of" "Coder.chance_of" sm_Coder_chance_of, dm "Reader" "learn" "Coder.learn" sm_Coder_learn, dm "Reader" "narrowed" "Coder.narrowed" sm_Coder_narrowed]
def hFn2 : List He.DefD := [dm "Reader" "sign_at" "Reader.sign_at" sm_Reader_sign_at, dm "Reader" "came" "Reader.came" sm_Reader_came, dm "Reader" "read_by" "Reader.read_by" sm_Reader_read_by, dm "Reader" "bit" "Reader.bit" sm_Reader_bit, dm "Reader" "even" "Reader.even" sm_Reader_even, dm "Reader" "number" "Reader.number" sm_Reader_number, dm "Writer" "__init__" "Coder.__init__" sm_Coder_init, dm "Reader" "__init__" "Reader.__init__" sm_Reader_init, dm "Coder" "__init__" "Coder.__init__" sm_Coder_init, dm "BadLetters" "__init__" "BadLetters.__init__" sm_BadLetters_init]
def hFn : List He.DefD := hFn0 ++ hFn1 ++ hFn2
def hFa0 : List He.Fa := [.glo "is_whole", .glo "is_list", .glo "is_side", .glo "is_letter", .glo "kinds_for", .glo "is_vector", .glo "is_rest", .glo "is_part", .glo "is_choice", .glo "are_choices", .glo "first_vector", .glo "signs_in", .glo "lower_signs", .glo "letters_in", .glo "need_sign", .glo "middle", .glo "guessed_vector", .glo "vector_part", .glo "write_vector", .glo "write_rest", .glo "write_choice", .glo "read_vector", .glo "read_rest", .glo "read_choice", .glo "need_size", .glo "letters_of", .glo "read_choices", .glo "first_unlike", .glo "choices_of", .glo "_law_begin"]
def hFa1 : List He.Fa := [.glo "_law_more", .glo "_law_next", .glo "_law_pick", .glo "_law_vector", .glo "_law_coder", .glo "_law_sign", .glo "_law_power", .glo "_law_number", .glo "_law_counts_by", .glo "_law_told_vector", .glo "_law_told_rest", .glo "_law_told", .glo "_law_all_told", .glo "_law_told_of", .glo "_law_read", .glo "_law_rows_of", .glo "_law_is_theirs", .glo "_law_right", .glo "law", .glo "Coder", .glo "Writer", .glo "Reader", .glo "ShownError", .glo "BadLetters", .glo "BESIDE", .glo "NO_REST", .glo "ORDER", .glo "FORMS", .free "len", .free "range"]
def hFa2 : List He.Fa := [.free "isinstance", .free "int", .free "bool", .free "list", .free "tuple", .free "str", .free "all", .free "zip", .free "enumerate", .free "abs", .free "min", .free "max", .free "sorted", .int "LEAST_SIDE" 4, .int "MOST_SIDE" 32, .int "MOST_VECTOR" 32, .int "MOST_REST" 4000, .int "MOST_READS" 2, .int "EVEN" 1024, .int "WHOLE" 2048, .int "SLOW" 32, .int "LEAST_BREADTH" 16777216, .int "FIRST_BREADTH" 4294967296, .int "AHEAD" 4, .int "MOST_NUMBER" 8190, .int "TURN" 65, .cls "Writer", .cls "Reader", .noat "Writer" "low", .noat "Writer" "breadth"]
def hFa3 : List He.Fa := [.noat "Writer" "room", .noat "Writer" "sent", .noat "Writer" "learned_ones", .noat "Reader" "low", .noat "Reader" "breadth", .noat "Reader" "room", .noat "Reader" "sent", .noat "Reader" "learned_ones", .noat "Reader" "signs", .noat "Reader" "code", .noat "BadLetters" "at", .meth "Writer" "chance_of", .meth "Writer" "learn", .meth "Writer" "narrowed", .meth "Writer" "came", .meth "Writer" "bit", .meth "Writer" "even", .meth "Writer" "number", .meth "Writer" "letters", .meth "Reader" "chance_of", .meth "Reader" "learn", .meth "Reader" "narrowed", .meth "Reader" "sign_at", .meth "Reader" "came", .meth "Reader" "read_by", .meth "Reader" "bit", .meth "Reader" "even", .meth "Reader" "number", .mkr "Writer", .mkr "Reader"]
def hFa4 : List He.Fa := [.exm "BadLetters" "BadLetters" true]
def hFa : List He.Fa := hFa0 ++ hFa1 ++ hFa2 ++ hFa3 ++ hFa4
def hTs : List He.Tab := [(fun K => He.ga K "FORMS", ["flat", "left", "above", "slope", "as", "moved", "both"])]
def hNm0 : List Str := ["_wall", "LEAST_SIDE", "MOST_SIDE", "MOST_VECTOR", "MOST_REST", "MOST_READS", "is_whole", "is_list", "is_side", "is_letter", "BESIDE", "FORMS", "NO_REST", "kinds_for", "is_vector", "is_rest", "is_part", "is_choice", "are_choices", "first_vector", "ShownError", "BadPicture", "BadNumber", "BadChoices", "BadLetters", "EVEN", "WHOLE", "SLOW", "LEAST_BREADTH", "FIRST_BREADTH"]
def hNm1 : List Str := ["AHEAD", "MOST_NUMBER", "signs_in", "lower_signs", "letters_in", "Coder", "need_sign", "Writer", "Reader", "middle", "guessed_vector", "ORDER", "TURN", "vector_part", "write_vector", "write_rest", "write_choice", "read_vector", "read_rest", "read_choice", "need_size", "letters_of", "read_choices", "first_unlike", "choices_of", "_law_begin", "_law_more", "_law_next", "_law_pick", "_law_vector"]
def hNm2 : List Str := ["_law_coder", "_law_sign", "_law_power", "_law_number", "_law_counts_by", "_law_told_vector", "_law_told_rest", "_law_told", "_law_all_told", "_law_told_of", "_law_read", "_law_rows_of", "_law_is_theirs", "_law_right"]
def hNm : List Str := hNm0 ++ hNm1 ++ hNm2
abbrev hR : PySem.W.OpenRow := PySem.W.OpenLaw.row PySem.Challenge.rw_sameshown_k04_whole_one_row_of_letters_f
def hLet {α β : Type} (x : α) (f : α → β) : β := f x
def hNs (g : Addr → Option Obj) (a : Addr) : Addr := match g a with
  | some ⟨_, _, .cls cd, _⟩ => cd.ns
  | _ => 0
def hMs (g : Addr → Option Obj) (a : Addr) : List Addr := match g a with
  | some ⟨_, _, .dict es _, _⟩ => es.toList.flatMap fun e => He.refV e.val
  | _ => []
def hCd (g : Addr → Option Obj) (a : Addr) : List Addr := match g a with
  | some ⟨_, _, .func fd, _⟩ => He.refV fd.code
  | _ => []
def hDf0 : List Str := ["is_whole", "is_list", "is_side", "is_letter", "kinds_for", "is_vector", "is_rest", "is_part", "is_choice", "are_choices", "first_vector", "signs_in", "lower_signs", "letters_in", "need_sign", "middle", "guessed_vector", "vector_part", "write_vector", "write_rest", "write_choice", "read_vector", "read_rest", "read_choice", "need_size", "letters_of", "read_choices", "first_unlike", "choices_of", "_law_begin"]
def hDf1 : List Str := ["_law_more", "_law_next", "_law_pick", "_law_vector", "_law_coder", "_law_sign", "_law_power", "_law_number", "_law_counts_by", "_law_told_vector", "_law_told_rest", "_law_told", "_law_all_told", "_law_told_of", "_law_read", "_law_rows_of", "_law_is_theirs", "_law_right", "law"]
def hDf : List Str := hDf0 ++ hDf1
/-- where to look: the module, five classes, their names, the tables, the defs, their code -/
def hAs (g : Addr → Option Obj) : List Addr :=
  hLet (He.frG g [mainGlobals]) fun k => hLet ((["Coder", "Writer", "Reader", "ShownError", "BadLetters"] : List Str).map (He.ga k)) fun cl => hLet (cl.map (hNs g)) fun nn =>
    hLet (nn.flatMap (hMs g) ++ hDf.map (He.ga k)) fun fs => [mainGlobals, cStatics] ++ cl ++ nn ++ (["BESIDE", "NO_REST", "ORDER", "FORMS"] : List Str).map (He.ga k) ++ fs ++ fs.flatMap (hCd g)
def hK (g : Addr → Option Obj) : PySem.W.Frag := He.frG g (hAs g)
def hSee (g : Addr → Option Obj) : He.AlX := (He.obsT hFa hFn hTs (hK g), exHd (hK g))
structure HSays (w : World) (K : PySem.W.Frag) : Prop where
  t : He.SaysT hFa hFn hTs w K
  more : exHd K = true
def hHk : PySem.W.Hook where
  α := He.AlX
  obs := fun s => hSee s.heap.get?
  val := fun w => He.valX hFn hTs w
  says := fun w h => ∃ K : PySem.W.Frag, K.In h ∧ HSays w K
  of := fun _ _ e => ⟨_, He.frG_in, congrArg (fun z : He.AlX => z.1) e, congrArg (fun z : He.AlX => z.2) e⟩
  keeps := fun _ _ _ ⟨K, q, c⟩ k => ⟨K, PySem.W.Frag.In.keeps q k, c⟩
def hOb (s : PySem.W.SharedT) : He.AlX := hSee (HandSHeadRun.getT s)
theorem hOb_eq (s : PySem.W.SharedT) : hOb s = hHk.obs s.abs := by
  have e : HandSHeadRun.getT s = s.abs.heap.get? := funext (HandSHeadRun.getT_eq s)
  show hSee (HandSHeadRun.getT s) = hSee s.abs.heap.get?
  rw [e]
theorem hRunF (w : World) : HandSHeadRun.RunEq hR (PySem.W.view hR.prog [81]) hHk hOb 20000 hNm (w.withFollow "special-get-raises" false) := by
  intro os
  kernel_rfl
theorem hRunT (w : World) : HandSHeadRun.RunEq hR (PySem.W.view hR.prog [81]) hHk hOb 20000 hNm (w.withFollow "special-get-raises" true) := by
  intro os
  kernel_rfl
theorem hRun (w : World) : HandSHeadRun.RunEq hR (PySem.W.view hR.prog [81]) hHk hOb 20000 hNm w :=
  PySem.W.byRow2 "special-get-raises" (P := fun w => HandSHeadRun.RunEq hR (PySem.W.view hR.prog [81]) hHk hOb 20000 hNm w) hRunF hRunT w
end K4
set_option maxHeartbeats 4000000
namespace K4
open PySem PySem.Spec PyProof.Rows L2
variable {P : Program} {w : World} {K : PySem.W.Frag} {mg : Str → Option Value} {base : Heap}
/-! ### is_part -/
inductive PartOk (K : PySem.W.Frag) (H : Hp) (reads : Nat) : Str → V → Prop
  | r (z : Int) : 0 ≤ z → z ≤ (reads : Int) - 1 → PartOk K H reads "r" (.int z)
  | v {x : V} (v : Vec) : IsV K H x v → vecOk v → PartOk K H reads "v" x
  | s {x : V} (r : List Int) : IsR K H x r → restOk r → PartOk K H reads "s" x
theorem PartOk.tk {H H' : Hp} {reads : Nat} {c : Str} {x : V} (t : TK K H H') (h : PartOk K H reads c x) : PartOk K H' reads c x := by
  cases h with
  | r z a b => exact .r z a b
  | v v a b => exact .v v (a.tk t) b
  | s r a b => exact .s r (a.tk t) b
def spPart (K : PySem.W.Frag) : Sp := fun vs H Q _ => ∃ (c : Str) (x : V) (reads : Nat), vs = [.str c, x, .int reads] ∧ PartOk K H reads c x ∧ ∀ H', Same H H' → Q (.bl true) H'
theorem sc_is_part : FnScope ["sign", "thing", "reads"] ["sign", "thing", "reads"] (defScope s_is_part) := ⟨rfl, rfl, rfl, by decide +kernel, rfl, by decide +kernel, by decide +kernel⟩
theorem d_is_part (D : Df K mg "is_part" s_is_part) (G : Dk P w K mg base CX0 1 "is_whole" ["thing", "least", "most"] spWhole) (GV : Dk P w K mg base CX0 2 "is_vector" ["thing"] (spIsVec K)) (GR : Dk P w K mg base CX0 2 "is_rest" ["thing"] (spIsRest K)) :
    Dk P w K mg base CX0 3 "is_part" ["sign", "thing", "reads"] (spPart K) := by
  refine Dk.mk' D sc_is_part (fun _ _ _ _ _ _ us hl => match us, hl with | [_, _, _], _ => rfl) (fun vs H Q E h => ?_) (fun cdv A outer s H vs Q E hr h => ?_)
  · obtain ⟨c, x, r, rfl, _⟩ := h
    rfl
  · obtain ⟨c, x, reads, rfl, hp, q⟩ := h
    refine ⟨_, pss_cons (ps_if (pt_cmpR op_eq (pv 0) pe_str (nomark _)) (pss_one (ps_ret (pcall G hr (by decide) rfl (pa_cons (pv 1) (pa_cons pe_int (pa_cons (pe_op op_sub (pv 2) pe_int) pa_nil)))))) pss_nil)
      (pss_one (ps_ret (pe_ifExp (pt_cmpR op_eq (pv 0) pe_str (nomark _)) (pcall GV hr (by decide) rfl (pa_cons (pv 1) pa_nil)) (pcall GR hr (by decide) rfl (pa_cons (pv 1) pa_nil))))), ?_⟩
    cases hp with
    | r z h1 h2 =>
      refine ⟨_, rfl, rfl, _, rfl, ite2 (fun _ => ?_) (fun cc => absurd (decide_eq_true rfl) cc)⟩
      exact ⟨_, rfl, _, rfl, _, _, rfl, rfl, z, 0, _, rfl, h1, h2, q _ (Same.refl H)⟩
    | v v h1 h2 =>
      refine ⟨_, rfl, rfl, _, rfl, ite2 (fun cc => absurd (V.str.inj (of_decide_eq_true cc)) (by decide +kernel)) (fun _ => ?_)⟩
      refine ⟨_, rfl, rfl, _, rfl, ite2 (fun _ => ?_) (fun cc => absurd (decide_eq_true rfl) cc)⟩
      exact ⟨_, rfl, x, v, rfl, h1, h2, q⟩
    | s r h1 h2 =>
      refine ⟨_, rfl, rfl, _, rfl, ite2 (fun cc => absurd (V.str.inj (of_decide_eq_true cc)) (by decide +kernel)) (fun _ => ?_)⟩
      refine ⟨_, rfl, rfl, _, rfl, ite2 (fun cc => absurd (V.str.inj (of_decide_eq_true cc)) (by decide +kernel)) (fun _ => ?_)⟩
      exact ⟨_, rfl, x, r, rfl, h1, h2, q⟩
end K4
namespace K4
open PySem PySem.Spec PyProof.Rows L2
variable {P : Program} {w : World} {K : PySem.W.Frag} {mg : Str → Option Value} {base : Heap}
def kS : Ch → Str
  | .bes i _ => bes i
  | .as _ => "as"
  | .mov _ _ _ => "moved"
  | .both _ _ _ => "both"
def fS : Ch → Str
  | .bes _ _ => "s"
  | .as _ => "r"
  | .mov _ _ _ => "rvs"
  | .both _ _ _ => "vvs"
def formsT : List (Str × Str) := [("flat", "s"), ("left", "s"), ("above", "s"), ("slope", "s"), ("as", "r"), ("moved", "rvs"), ("both", "vvs")]
theorem bes_form (i : Nat) : (bes i, ("s" : Str)) ∈ formsT := by
  unfold bes
  split
  · decide +kernel
  · split
    · decide +kernel
    · split <;> decide +kernel
theorem form_in (c : Ch) : (kS c, fS c) ∈ formsT := by
  cases c with
  | bes i r => exact bes_form i
  | as w => show (("as" : Str), ("r" : Str)) ∈ formsT; decide +kernel
  | mov w v r => show (("moved" : Str), ("rvs" : Str)) ∈ formsT; decide +kernel
  | both v u r => show (("both" : Str), ("vvs" : Str)) ∈ formsT; decide +kernel
theorem bes_kind : ∀ i < 4, ∀ r < 3, bes i ∈ kindsL r := by decide +kernel
theorem kind_in {reads : Nat} {c : Ch} (hr : reads ≤ 2) (h : chOk reads c) : kS c ∈ kindsL reads := by
  rcases (show reads = 0 ∨ reads = 1 ∨ reads = 2 by omega) with rfl | rfl | rfl <;> cases c with
  | bes i r => exact bes_kind i h.1 _ (by decide)
  | as w =>
    first
    | exact absurd h.1 (by decide)
    | (show ("as" : Str) ∈ _; decide +kernel)
  | mov w v r =>
    first
    | exact absurd h.1 (by decide)
    | (show ("moved" : Str) ∈ _; decide +kernel)
  | both v u r =>
    first
    | exact absurd h.1 (by decide)
    | (show ("both" : Str) ∈ _; decide +kernel)
theorem b2i_le (w : Bool) (reads : Nat) (h1 : 1 ≤ reads) (h2 : reads = 2 ∨ w = false) : 0 ≤ b2i w ∧ b2i w ≤ (reads : Int) - 1 := by
  cases w
  · simp [b2i]; omega
  · rcases h2 with h2 | h2
    · subst h2; decide
    · cases h2
theorem ChX.split {H : Hp} {xs : List V} {c : Ch} {reads : Nat} (h : ChX K H xs c) (hc : chOk reads c) : ∃ ps, xs = .str (kS c) :: ps ∧ ps.length = (fS c).cps.size ∧ ps.length ≤ 3 ∧ ∀ (i ch : Nat) (p : V), (fS c).cps[i]? = some ch → ps[i]? = some p → PartOk K H reads ⟨#[ch]⟩ p := by
  have er : (⟨#[114]⟩ : Str) = "r" := by decide +kernel
  have ev : (⟨#[118]⟩ : Str) = "v" := by decide +kernel
  have es : (⟨#[115]⟩ : Str) = "s" := by decide +kernel
  cases c with
  | bes i r =>
    obtain ⟨y, rfl, hy⟩ := h
    refine ⟨[y], rfl, rfl, by simp, fun j ch p h1 h2 => ?_⟩
    have h1 : (#[115] : Array Nat)[j]? = some ch := h1
    match j, h1, h2 with
    | 0, h1, h2 =>
      obtain rfl : 115 = ch := Option.some.inj h1
      obtain rfl := Option.some.inj h2
      rw [es]; exact .s r hy hc.2
  | as w =>
    have h : xs = [.str "as", .int (b2i w)] := h
    subst h
    refine ⟨[.int (b2i w)], rfl, rfl, by simp, fun j ch p h1 h2 => ?_⟩
    have h1 : (#[114] : Array Nat)[j]? = some ch := h1
    match j, h1, h2 with
    | 0, h1, h2 =>
      obtain rfl : 114 = ch := Option.some.inj h1
      obtain rfl := Option.some.inj h2
      have := b2i_le w reads hc.1 hc.2
      rw [er]; exact .r _ this.1 this.2
  | mov w v r =>
    obtain ⟨x, y, rfl, h3, h4⟩ := h
    refine ⟨[.int (b2i w), x, y], rfl, rfl, by simp, fun j ch p h1 h2 => ?_⟩
    have h1 : (#[114, 118, 115] : Array Nat)[j]? = some ch := h1
    match j, h1, h2 with
    | 0, h1, h2 =>
      obtain rfl : 114 = ch := Option.some.inj h1
      obtain rfl := Option.some.inj h2
      have := b2i_le w reads hc.1 hc.2.1
      rw [er]; exact .r _ this.1 this.2
    | 1, h1, h2 =>
      obtain rfl : 118 = ch := Option.some.inj h1
      obtain rfl := Option.some.inj h2
      rw [ev]; exact .v v h3 hc.2.2.1
    | 2, h1, h2 =>
      obtain rfl : 115 = ch := Option.some.inj h1
      obtain rfl := Option.some.inj h2
      rw [es]; exact .s r h4 hc.2.2.2
  | both v u r =>
    obtain ⟨x, z, y, rfl, h3, h4, h5⟩ := h
    refine ⟨[x, z, y], rfl, rfl, by simp, fun j ch p h1 h2 => ?_⟩
    have h1 : (#[118, 118, 115] : Array Nat)[j]? = some ch := h1
    match j, h1, h2 with
    | 0, h1, h2 =>
      obtain rfl : 118 = ch := Option.some.inj h1
      obtain rfl := Option.some.inj h2
      rw [ev]; exact .v v h3 hc.2.1
    | 1, h1, h2 =>
      obtain rfl : 118 = ch := Option.some.inj h1
      obtain rfl := Option.some.inj h2
      rw [ev]; exact .v u h4 hc.2.2.1
    | 2, h1, h2 =>
      obtain rfl : 115 = ch := Option.some.inj h1
      obtain rfl := Option.some.inj h2
      rw [es]; exact .s r h5 hc.2.2.2
theorem walk_zipS {sx : Str} {b : Addr} {ys : List V} (h : ys.length = sx.cps.size) : Walk (ItzS K sx b) sx.cps.size (fun H => SqL K H b ys) (fun i H v H' => ∃ T c y, v = .ref T ∧ H T = none ∧ H' = upd H T (.tup [.str ⟨#[c]⟩, y]) ∧ sx.cps[i]? = some c ∧ ys[i]? = some y) :=
  ⟨fun i H hi hs => ⟨ys, sx.cps[i], ys[i], hs, by simp [hi], by simp [h, hi]⟩, fun H hs => ⟨ys, hs, rfl, h⟩, fun i H x H' hi hs ⟨T, c, y, e1, e2, e3, e4, e5⟩ => ⟨T, c, y, e1, e2, e3, e4, e5 _ hs⟩⟩
theorem flat_strs : ∀ (l : List Str), (l.map V.str).all flatV = true
  | [] => rfl
  | x :: l => by
    rw [List.map_cons, List.all_cons, flat_strs l]
    rfl
def spIsCh (K : PySem.W.Frag) : Sp := fun vs H Q _ => ∃ (x : V) (c : Ch) (reads : Nat), vs = [x, .int reads] ∧ reads ≤ 2 ∧ IsCh K H x c ∧ chOk reads c ∧ ∀ H', Same H H' → Q (.bl true) H'
theorem sc_is_choice : FnScope ["thing", "reads", "kind", "parts", "sign", "part"] ["thing", "reads"] (defScope s_is_choice) := ⟨rfl, rfl, rfl, by decide +kernel, rfl, by decide +kernel, by decide +kernel⟩
theorem pgs_starred {X : Cx} {e : Expr} {p : Pos} {es : List Expr} {t : TG} {u : TGs} (h1 : PG X e t) (h2 : PGs X es u) : PGs X (.Starred e p :: es) (gCons t u) := by
  refine ⟨fun pins s σ H vs us Q I r h => ?_⟩
  obtain ⟨v, vr, e1, h⟩ := h
  subst e1
  cases r with
  | cons r rr =>
    show wpAny _ _ (assignInOrder (assign e X.env :: (assignEach es X.env).map (·.2)) _) _ _ _
    refine assignInOrder_cons (thn (h1.run pins s σ H _ _ _ I r h) fun _ s1 ⟨σ1, H1, I1, q1⟩ => ?_)
    exact h2.run pins s1 σ1 H1 _ _ Q I1 rr q1
theorem inV_str {k : Str} {l : List Str} (h : k ∈ l) : inV (.str k) (l.map V.str) = true := by
  unfold inV
  exact List.any_eq_true.mpr ⟨.str k, List.mem_map.mpr ⟨k, h, rfl⟩, by simp [eqV]⟩
theorem d_is_choice (B : Bt mg) (T : Tb K w mg) (D : Df K mg "is_choice" s_is_choice) (GK : Dk P w K mg base CX0 1 "kinds_for" ["reads"] (spKinds K)) (GP : Dk P w K mg base CX0 3 "is_part" ["sign", "thing", "reads"] (spPart K)) : Dk P w K mg base CX0 4 "is_choice" ["thing", "reads"] (spIsCh K) := by
  refine Dk.mk' D sc_is_choice (fun _ _ _ _ _ _ us hl => match us, hl with | [_, _], _ => rfl) (fun vs H Q E h => ?_) (fun cdv A outer s H vs Q E hr h => ?_)
  · obtain ⟨x, c, r, rfl, _⟩ := h
    rfl
  · obtain ⟨x, c, reads, rfl, h2, ⟨a, xs, rfl, hs, hx⟩, hc, q⟩ := h
    obtain ⟨fd, es, nn, gf, KD, ft⟩ := T.forms
    obtain ⟨u0, hu0, ru0⟩ := ft _ (form_in c)
    obtain ⟨ps, rfl, hl1, hl3, hp⟩ := hx.split hc
    refine ⟨_, pss_cons (ps_if (PW.pt (pw_or (pt_not (pt_val (pB isa_tup B.isinstance (pa_cons (pv 0) (pa_cons (pe_ty "tuple" B.tuple) pa_nil))))) (pw_or1 (pt_cmpR (op_eqK (room64 hr)) (pv 0) (pe_tup pa_nil) (nomark _))))) pss_never pss_nil)
      (pss_cons (ps_asg (pv 0) (pg_star1 rfl (pgs_cons (pg_name (i := 2) sc_is_choice.nd rfl (.inl rfl)) (pgs_starred (pg_name (i := 3) sc_is_choice.nd rfl (.inl rfl)) pgs_nil))))
      (pss_cons (ps_if (PW.pt (pw_or (pt_not (pt_val (pB isa_str B.isinstance (pa_cons (pv 2) (pa_cons (pe_ty "str" B.str) pa_nil))))) (pw_or (pt_cmpR op_notIn_seq (pv 2) (pcall GK hr (by decide) rfl (pa_cons (pv 1) pa_nil)) (by rfl))
          (pw_or1 (pt_cmpR op_ne (pB call_len B.len (pa_cons (pv 3) pa_nil)) (pB call_len B.len (pa_cons (pe_kdget KD (pgR gf) (pv 2) (fun _ _ => rfl)) pa_nil)) (nomark _)))))) pss_never pss_nil)
      (pss_one (ps_ret (pB (cr_all rfl) B.all (pa_cons (pe_lc (own := [("sign", 4), ("part", 5)]) (g := gTup K 2 (gCons (gName 4) (gCons (gName 5) gNil))) (tt := tYes) rfl sc_is_choice.nd (pi_zipS rfl B.zip (pa_cons (pe_kdget KD (pgR gf) (pv 2) (fun _ _ => rfl)) (pa_cons (pv 3) pa_nil))) (blkOk_by (N := ["thing", "reads", "kind", "parts", "sign", "part"]) (sc := defScope s_is_choice) (by decide +kernel))
        (fun _ _ _ _ _ => pg_tup (by rfl) (pgs_cons (pg_name (i := 4) sc_is_choice.nd rfl (Or.inl rfl)) (pgs_cons (pg_name (i := 5) sc_is_choice.nd rfl (Or.inl rfl)) pgs_nil))) (fun _ _ _ _ _ => pts_nil)
        (fun _ _ _ _ _ => pcall GP hr (by decide) rfl (pa_cons (pv 4) (pa_cons (pv 5) (pa_cons (pv 1) pa_nil))))) pa_nil)))))), ?_⟩
    refine ⟨_, rfl, _, rfl, ⟨a, _, rfl, hs⟩, _, rfl, iteF ?_⟩
    refine ⟨_, rfl, by show 0 ≤ sizeLine; decide, fun p0 hp0 => ?_⟩
    have s0 : Same H (upd H p0 (.tup [])) := Same.new hp0
    refine ⟨cK c, .tup [], ChX.kd (s0.seqT hs) (hx.tk s0.tk), .tup (.inl (.inl upd_same)) .nil, by have := cK_le c; omega, by decide, _, rfl, ?_⟩
    have hne : ¬ cK c = .tup [] := by cases c <;> simp [cK]
    rw [if_neg Bool.false_ne_true, decide_eq_false hne]
    refine iteF ?_
    generalize upd H p0 (.tup []) = H1 at s0
    refine ⟨_, rfl, a, _, ps, rfl, s0.seqT hs, fun l hl => ?_⟩
    have s1 : Same H (upd H1 l (.lst ps)) := s0.trans (Same.new hl)
    have hl5 : upd H1 l (.lst ps) l = some (.lst ps) := upd_same
    generalize upd H1 l (.lst ps) = H2 at s1 hl5
    refine ⟨_, _, rfl, _, _, rfl, ⟨rfl, ?_⟩⟩
    refine ⟨_, rfl, _, rfl, ⟨_, rfl⟩, _, rfl, iteF ?_⟩
    refine ⟨_, rfl, _, rfl, reads, rfl, h2, fun k H3 s3 hk _ => ⟨k, _, rfl, .inr hk, rfl, flat_strs _, ?_⟩⟩
    rw [inV_str (kind_in h2 hc)]
    refine ⟨_, rfl, iteF ?_⟩
    have hl6 : H3 l = some (.lst ps) := s3 _ _ hl5
    have hf : LenV K (.str (fS c)) H3 (fS c).length := ⟨by rw [show (fS c).length = ps.length from hl1.symm]; exact Nat.le_of_lt (n_size (by omega)), rfl⟩
    refine ⟨_, rfl, _, _, rfl, .inl ⟨ps, .inl (.inl hl6), rfl⟩, _, rfl, _, u0, _, rfl, rfl, hu0, ru0, _, _, rfl, hf, rfl, _, rfl, ?_⟩
    rw [show ((fS c).length : Int) = (ps.length : Int) from congrArg Nat.cast hl1.symm, decide_eq_true rfl]
    refine iteF ?_
    refine ⟨_, rfl, _, u0, _, rfl, rfl, hu0, ru0, _, rfl, _, l, ps, rfl, .inl (.inl hl6), fun D hD => lc_it (walk_zipS hl1) (fun i H' => H' D = some (.lst (List.replicate i (V.bl true))) ∧ Same H3 H') ⟨upd_same, Same.new hD⟩ (fun i H' _ p => .inl (.inl (p.2 _ _ hl6))) ?_ ?_⟩
    · rintro i x H' H'' hi ⟨hd, hsm⟩ ⟨T, ch, y, rfl, hT, rfl, e1, e2⟩
      have s4 : Same H3 (upd H' T (.tup [.str ⟨#[ch]⟩, y])) := hsm.trans (Same.new hT)
      refine ⟨T, _, rfl, .inl (.inl upd_same), rfl, _, _, rfl, _, _, rfl, rfl, rfl, ?_⟩
      refine ⟨_, rfl, _, rfl, _, rfl, ⟨#[ch]⟩, y, reads, rfl, (hp i ch y e1 e2).tk ((s1.trans s3).trans s4).tk, fun H5 s5 => ⟨_, s5 _ _ (by rw [upd_ne (ne_of_none hd hT)]; exact hd), by rw [List.length_replicate]; exact n_size (by omega), ?_, (s4.trans s5).more hD⟩⟩
      rw [upd_same, trues_push]
    · rintro H' ⟨hd, hsm⟩
      exact all_true hd (q _ ((s1.trans s3).trans hsm))
def spAre (K : PySem.W.Frag) : Sp := fun vs H Q _ => ∃ (x : V) (cs : List Ch) (m reads : Nat), vs = [x, .int m, .int reads] ∧ reads ≤ 2 ∧ IsCt K H x cs ∧ allOk reads m cs ∧ m ≤ 100 ∧ ∀ H', Same H H' → Q (.bl true) H'
theorem sc_are : FnScope ["thing", "many", "reads", "one"] ["thing", "many", "reads"] (defScope s_are_choices) := ⟨rfl, rfl, rfl, by decide +kernel, rfl, by decide +kernel, by decide +kernel⟩
theorem IsCs.len {H : Hp} {xs : List V} {cs : List Ch} (h : IsCs K H xs cs) : xs.length = cs.length := Paired.length h
theorem IsCs.at {H : Hp} {xs : List V} {cs : List Ch} (h : IsCs K H xs cs) : ∀ {i : Nat} {x : V}, xs[i]? = some x → ∃ c, cs[i]? = some c ∧ IsCh K H x c := by
  induction h with
  | nil => intro i x e; exact nomatch e
  | @cons a b as bs r t ih =>
    intro i x e
    cases i with
    | zero => exact ⟨b, rfl, by obtain rfl := Option.some.inj e; exact r⟩
    | succ i => exact ih e
theorem d_are (B : Bt mg) (D : Df K mg "are_choices" s_are_choices) (G : Dk P w K mg base CX0 4 "is_choice" ["thing", "reads"] (spIsCh K)) : Dk P w K mg base CX0 5 "are_choices" ["thing", "many", "reads"] (spAre K) := by
  refine Dk.mk' D sc_are (fun _ _ _ _ _ _ us hl => match us, hl with | [_, _, _], _ => rfl) (fun vs H Q E h => ?_) (fun cdv A outer s H vs Q E hr h => ?_)
  · obtain ⟨x, c, m, r, rfl, _⟩ := h
    rfl
  · obtain ⟨x, cs, m, reads, rfl, h2, ⟨a, xs, rfl, hs, hx⟩, hc, hm, q⟩ := h
    have hlen : xs.length = m := hx.len.trans hc.1
    refine ⟨_, pss_cons (ps_if (PW.pt (pw_or (pt_not (pt_val (pB isa_tup B.isinstance (pa_cons (pv 0) (pa_cons (pe_ty "tuple" B.tuple) pa_nil))))) (pw_or1 (pt_cmpR op_ne (pB call_len B.len (pa_cons (pv 0) pa_nil)) (pv 1) (nomark _))))) pss_never pss_nil)
      (pss_one (ps_ret (pB (cr_all rfl) B.all (pa_cons (pe_lc (own := [("one", 3)]) (g := gName 3) (tt := tYes) rfl sc_are.nd (pi_tup (pv 0)) (blkOk_by (N := ["thing", "many", "reads", "one"]) (sc := defScope s_are_choices) (by decide +kernel)) (fun _ _ _ _ _ => pg_name (i := 3) sc_are.nd rfl (Or.inl rfl)) (fun _ _ _ _ _ => pts_nil)
        (fun _ _ _ _ _ => pcall G hr (by decide) rfl (pa_cons (pv 3) (pa_cons (pv 2) pa_nil)))) pa_nil)))), ?_⟩
    refine ⟨_, rfl, _, rfl, ⟨a, _, rfl, hs⟩, _, rfl, iteF ?_⟩
    refine ⟨_, rfl, _, _, rfl, .inr ⟨_, hs, rfl⟩, _, rfl, rfl, _, rfl, ?_⟩
    rw [hlen, decide_eq_true rfl]
    refine iteF ?_
    refine ⟨_, rfl, a, rfl, ⟨_, hs⟩, fun D hD => lc_tup (xs := xs) (fun i H' => H' D = some (.lst (List.replicate i (V.bl true))) ∧ Same H H') ⟨upd_same, Same.new hD⟩ (fun i H' _ p => p.2.seqT hs) ?_ ?_⟩
    · rintro i x H' hx' ⟨hl, hsm⟩
      have hi : i < m := by rw [← hlen]; exact (List.getElem?_eq_some_iff.mp hx').1
      obtain ⟨c, hc1, hc2⟩ := hx.at hx'
      refine ⟨rfl, ?_⟩
      exact ⟨_, rfl, _, rfl, x, c, reads, rfl, h2, hc2.tk hsm.tk, hc.2 c (List.mem_of_getElem? hc1), fun H5 s5 => ⟨_, s5 _ _ hl, by rw [List.length_replicate]; exact n_size (by omega), by rw [upd_same, trues_push], (hsm.trans s5).more hD⟩⟩
    · rintro H' ⟨hl, hsm⟩
      exact all_true hl (q _ hsm)
end K4
namespace K4
open PySem PySem.Spec PyProof.Rows L2
variable {P : Program} {w : World} {K : PySem.W.Frag} {mg : Str → Option Value} {base : Heap}
/-! ### first_vector -/
def spFirst (K : PySem.W.Frag) : Sp := fun vs H Q _ => ∃ (x gx : V) (c : Ch) (g : Vec), vs = [x, gx] ∧ IsCh K H x c ∧ IsV K H gx g ∧ ∀ y H', Same H H' → IsOV K H' y (fv c g) → Q y H'
theorem sc_first : FnScope ["choice", "guess", "kind"] ["choice", "guess"] (defScope s_first_vector) := ⟨rfl, rfl, rfl, by decide +kernel, rfl, by decide +kernel, by decide +kernel⟩
def pickC (c : Ch) (r1 r2 z : V) : V := match c with
  | .bes _ _ => z
  | .as _ => z
  | .mov _ _ _ => r1
  | .both _ _ _ => r2
theorem fvv (c : Ch) (r1 r2 z : V) : (valV (putK (putK [] ((.inr "moved") : Key) r1) (.inr "both") r2) (.inr (kS c))).getD z = pickC c r1 r2 z := by
  rw [valV_put, valV_put]
  cases c with
  | bes i r => 
    have e1 : ¬ (Sum.inr (kS (.bes i r)) : Key) = Sum.inr ("both" : Str) := fun e => (bes_not i).2.2 (Sum.inr.inj e)
    have e2 : ¬ (Sum.inr (kS (.bes i r)) : Key) = Sum.inr ("moved" : Str) := fun e => (bes_not i).2.1 (Sum.inr.inj e)
    rw [if_neg e1, if_neg e2]
    rfl
  | as w =>
    have e1 : ¬ (Sum.inr (kS (.as w)) : Key) = Sum.inr ("both" : Str) := fun e => absurd (Sum.inr.inj e) (by show ¬ ("as" : Str) = "both"; decide +kernel)
    have e2 : ¬ (Sum.inr (kS (.as w)) : Key) = Sum.inr ("moved" : Str) := fun e => absurd (Sum.inr.inj e) (by show ¬ ("as" : Str) = "moved"; decide +kernel)
    rw [if_neg e1, if_neg e2]
    rfl
  | mov w v r =>
    have e1 : ¬ (Sum.inr (kS (.mov w v r)) : Key) = Sum.inr ("both" : Str) := fun e => absurd (Sum.inr.inj e) (by show ¬ ("moved" : Str) = "both"; decide +kernel)
    rw [if_neg e1, if_pos (show (Sum.inr (kS (.mov w v r)) : Key) = Sum.inr ("moved" : Str) from rfl)]
    rfl
  | both v u r =>
    rw [if_pos (show (Sum.inr (kS (.both v u r)) : Key) = Sum.inr ("both" : Str) from rfl)]
    rfl
theorem six_ne {n k : Nat} {hi : Option Int} (h : 0 < k) (hk : k ≤ n) : ¬ (HT.sIx n 0 (some (k : Int)) = 0 ∧ HT.sIx n n hi = n) := fun z => by
  have := z.1
  rw [HT.sIx_nat] at this
  omega
theorem d_first (B : Bt mg) (D : Df K mg "first_vector" s_first_vector) : Dk P w K mg base CX0 1 "first_vector" ["choice", "guess"] (spFirst K) := by
  refine Dk.mk' D sc_first (fun _ _ _ _ _ _ us hl => match us, hl with | [_, _], _ => rfl) (fun vs H Q E h => ?_) (fun cdv A outer s H vs Q E hr h => ?_)
  · obtain ⟨x, gx, c, g, rfl, _⟩ := h
    rfl
  · obtain ⟨x, gx, c, g, rfl, ⟨a, xs, rfl, hs, hx⟩, hg, q⟩ := h
    have h0 : xs[0]? = some (.str (kS c)) := by
      cases c with
      | bes i r => obtain ⟨y, rfl, _⟩ := hx; rfl
      | as w => have hx : xs = _ := hx; subst hx; rfl
      | mov w v r => obtain ⟨x, y, rfl, _⟩ := hx; rfl
      | both v u r => obtain ⟨x, z, y, rfl, _⟩ := hx; rfl
    refine ⟨_, pss_cons (ps_set (i := 2) sc_first.nd rfl (.inl rfl) (pe_ix ix_tup (pv 0) pe_int (fun _ _ => rfl)))
      (pss_cons (ps_if (pt_cmpR op_eq (pv 2) pe_str (nomark _)) (pss_one (ps_ret (pv 1))) pss_nil)
      (pss_one (ps_ret (pe_ix ix_tup (pe_dget2 (room1 hr) (pe_disp (pps_cons pe_str (pe_slice sl_tupA (pv 0) (po_some pe_int) (po_some pe_int)) (pps_cons pe_str (pe_slice sl_tupA (pv 0) (po_some pe_int) (po_some pe_int)) pps_nil)) rfl rfl (by simp) (by decide)) (pv 2) (pe_tup (pa_cons pe_non pa_nil)) ⟨rfl, rfl, rfl, rfl⟩) pe_int (fun _ _ => rfl))))), ?_⟩
    refine ⟨_, rfl, a, xs, 0, _, rfl, rfl, hs, atI_nat (j := 0) h0, ?_⟩
    refine ⟨_, rfl, rfl, _, rfl, ite2 (fun cc => ?_) (fun cc => ?_)⟩
    · have e : kS c = "as" := V.str.inj (of_decide_eq_true cc)
      refine ⟨_, rfl, q _ _ (Same.refl H) ?_⟩
      cases c with
      | bes i r => exact absurd e (bes_not i).1
      | as w => exact hg
      | mov w v r => exact absurd e (by show ¬ ("moved" : Str) = "as"; decide +kernel)
      | both v u r => exact absurd e (by show ¬ ("both" : Str) = "as"; decide +kernel)
    · have nas : ¬ kS c = "as" := fun e => cc (decide_eq_true (by rw [e]))
      have hl2 : 2 ≤ xs.length := by
        cases c with
        | bes i r => obtain ⟨y, rfl, _⟩ := hx; show 2 ≤ 2; decide
        | as w => exact absurd rfl nas
        | mov w v r => obtain ⟨x, y, rfl, _⟩ := hx; show 2 ≤ 4; decide
        | both v u r => obtain ⟨x, z, y, rfl, _⟩ := hx; show 2 ≤ 4; decide
      refine fun p hp => ⟨_, rfl, 2, rfl, 3, rfl, a, xs, rfl, (Same.new hp).seqT hs, fun z => absurd z (six_ne (k := 2) (by decide) hl2), fun _ t ht => ?_⟩
      have npt : p ≠ t := fun e => by rw [← e, upd_same] at ht; cases ht
      have s1 : Same H (upd (upd H p (.dK [])) t (.tup (cutV xs (some 2) (some 3)))) := (Same.new hp).trans (Same.new ht)
      refine ⟨_, rfl, 1, rfl, 2, rfl, a, xs, rfl, s1.seqT hs, fun z => absurd z (six_ne (k := 1) (by decide) (by omega)), fun _ t2 ht2 => ?_⟩
      have nt2 : t ≠ t2 := fun e => by rw [← e, upd_same] at ht2; cases ht2
      have npt2 : p ≠ t2 := fun e => by rw [← e, upd_ne npt, upd_same] at ht2; cases ht2
      refine ⟨by rw [upd_ne npt2, upd_ne npt, upd_same], [(.inr "moved", .ref t), (.inr "both", .ref t2)], rfl, by show 2 ≤ 15; decide, p, rfl, .inl ⟨_, .inl upd_same⟩, _, rfl, by show 1 ≤ sizeLine; decide, fun t3 ht3 => ?_⟩
      have npt3 : p ≠ t3 := fun e => by rw [← e, upd_same] at ht3; cases ht3
      have nt3 : t ≠ t3 := fun e => by rw [← e, upd_ne npt.symm, upd_ne nt2, upd_same] at ht3; cases ht3
      have nt23 : t2 ≠ t3 := fun e => by rw [← e, upd_ne npt2.symm, upd_same] at ht3; cases ht3
      have em : mergeK [] [((.inr "moved" : Key), V.ref t), (.inr "both", .ref t2)] = putK (putK [] (.inr "moved") (.ref t)) (.inr "both") (.ref t2) := rfl
      have sF : Same H (upd (upd (upd (upd (upd H p (.dK [])) t (.tup (cutV xs (some 2) (some 3)))) t2 (.tup (cutV xs (some 1) (some 2)))) p (.dK (mergeK [] [((.inr "moved" : Key), V.ref t), (.inr "both", .ref t2)]))) t3 (.tup [.non])) := by
        refine ((s1.trans (Same.new ht2)).more hp).trans (Same.new ht3)
      have hT : ∀ (H9 : Hp), H9 = upd (upd (upd (upd (upd H p (.dK [])) t (.tup (cutV xs (some 2) (some 3)))) t2 (.tup (cutV xs (some 1) (some 2)))) p (.dK (mergeK [] [((.inr "moved" : Key), V.ref t), (.inr "both", .ref t2)]))) t3 (.tup [.non]) →
          H9 t = some (.tup (cutV xs (some 2) (some 3))) ∧ H9 t2 = some (.tup (cutV xs (some 1) (some 2))) ∧ H9 t3 = some (.tup [.non]) ∧ H9 p = some (.dK (putK (putK [] (.inr "moved") (.ref t)) (.inr "both") (.ref t2))) := by
        rintro H9 rfl
        refine ⟨?_, ?_, upd_same, ?_⟩
        · rw [upd_ne nt3, upd_ne npt.symm, upd_ne nt2, upd_same]
        · rw [upd_ne nt23, upd_ne npt2.symm, upd_same]
        · rw [upd_ne npt3, upd_same, em]
      obtain ⟨g1, g2, g3, g4⟩ := hT _ rfl
      generalize upd (upd (upd (upd (upd H p (.dK [])) t (.tup (cutV xs (some 2) (some 3)))) t2 (.tup (cutV xs (some 1) (some 2)))) p (.dK (mergeK [] [((.inr "moved" : Key), V.ref t), (.inr "both", .ref t2)]))) t3 (.tup [.non]) = H9 at sF g1 g2 g3 g4
      refine ⟨_, DGet.k (k := .inr (kS c)) g4, ?_⟩
      rw [fvv]
      cases c with
      | as w => exact absurd rfl nas
      | bes i r => exact ⟨t3, _, 0, .non, rfl, rfl, .inl (.inl g3), atI_nat (j := 0) rfl, q _ _ sF rfl⟩
      | mov w v r =>
        obtain ⟨x, y, rfl, h3, h4⟩ := hx
        exact ⟨t, _, 0, x, rfl, rfl, .inl (.inl g1), atI_nat (j := 0) rfl, q _ _ sF (IsV.tk sF.tk h3)⟩
      | both v u r =>
        obtain ⟨x, z, y, rfl, h3, h4, h5⟩ := hx
        exact ⟨t2, _, 0, x, rfl, rfl, .inl (.inl g2), atI_nat (j := 0) rfl, q _ _ sF (IsV.tk sF.tk h3)⟩
/-! ### middle -/
def spMiddle (K : PySem.W.Frag) : Sp := fun vs H Q _ => ∃ a, vs = [.ref a] ∧ SqL K H a (([0, 0, 0] : List Int).map V.int) ∧ ∀ H', Same H H' → Q (.int 0) H'
theorem sc_middle : FnScope ["some", "low", "found", "high"] ["some"] (defScope s_middle) := ⟨rfl, rfl, rfl, by decide +kernel, rfl, by decide +kernel, by decide +kernel⟩
theorem sorted000 {ns : List Int} (h : ns.Perm [0, 0, 0]) : ns = [0, 0, 0] := by
  have hl := h.length_eq
  have hm : ∀ x ∈ ns, x = 0 := fun x hx => by
    have := h.mem_iff.mp hx
    simpa using this
  match ns, hl, hm with
  | [a, b, c], _, hm =>
    rw [hm a (by simp), hm b (by simp), hm c (by simp)]
theorem d_middle (B : Bt mg) (D : Df K mg "middle" s_middle) : Dk P w K mg base CX0 1 "middle" ["some"] (spMiddle K) := by
  refine Dk.mk' D sc_middle (fun _ _ _ _ _ _ us hl => match us, hl with | [_], _ => rfl) (fun vs H Q E h => ?_) (fun cdv A outer s H vs Q E hr h => ?_)
  · obtain ⟨x, rfl, _⟩ := h
    rfl
  · obtain ⟨a, rfl, hs, q⟩ := h
    refine ⟨_, pss_cons (ps_asg (pB cr_sortedI B.sorted (pa_cons (pv 0) pa_nil)) (pg_unl rfl (pgs_cons (pg_name (i := 1) sc_middle.nd rfl (.inl rfl)) (pgs_cons (pg_name (i := 2) sc_middle.nd rfl (.inl rfl)) (pgs_cons (pg_name (i := 3) sc_middle.nd rfl (.inl rfl)) pgs_nil))))) (pss_one (ps_ret (pv 2))), ?_⟩
    refine ⟨_, rfl, a, [0, 0, 0], rfl, hs, fun ns p hp _ hn => ?_⟩
    obtain rfl := sorted000 hp
    exact ⟨p, _, rfl, .inl (.inl upd_same), rfl, _, _, rfl, _, _, rfl, _, _, rfl, rfl, _, rfl, q _ (Same.new hn)⟩
end K4
namespace K4
open PySem PySem.Spec PyProof.Rows L2
variable {P : Program} {w : World} {K : PySem.W.Frag} {mg : Str → Option Value} {base : Heap}
/-- the list of the vectors ahead of block k -/
def VsAt (K : PySem.W.Frag) (H : Hp) (ys : List V) (k : Nat) (l : Option Vec) : Prop := (k = 0 ∧ ys = [] ∧ l = none) ∨ (k = 1 ∧ ∃ y, ys = [y] ∧ IsOV K H y l)
def spGuess (K : PySem.W.Frag) : Sp := fun vs H Q _ => ∃ (a : Addr) (k across : Nat) (l : Option Vec) (ys : List V), vs = [.ref a, .int k, .int across] ∧ k < across ∧ across ≤ 2 ∧ H a = some (.lst ys) ∧ VsAt K H ys k l ∧ ∀ y H', Same H H' → IsV K H' y (gs l) → Q y H'
theorem sc_guess : FnScope ["vectors", "k", "across", "column", "beside", "some", "at", "vector"] ["vectors", "k", "across"] (defScope s_guessed_vector) := ⟨rfl, rfl, rfl, by decide +kernel, rfl, by decide +kernel, by decide +kernel⟩
theorem flat3 (x : V) : (List.replicate (3 : Int).toNat [x]).flatten = [x, x, x] := rfl
theorem d_guess (B : Bt mg) (D : Df K mg "guessed_vector" s_guessed_vector) (GM : Dk P w K mg base CX0 1 "middle" ["some"] (spMiddle K)) : Dk P w K mg base CX0 2 "guessed_vector" ["vectors", "k", "across"] (spGuess K) := by
  refine Dk.mk' D sc_guess (fun _ _ _ _ _ _ us hl => match us, hl with | [_, _, _], _ => rfl) (fun vs H Q E h => ?_) (fun cdv A outer s H vs Q E hr h => ?_)
  · obtain ⟨a, k, ac, l, ys, rfl, _⟩ := h
    rfl
  · obtain ⟨a, k, ac, l, ys, rfl, hk, hac, ha, hv, q⟩ := h
    refine ⟨_, pss_cons (ps_set (i := 3) sc_guess.nd rfl (.inl rfl) (pe_op op_mod (pv 1) (pv 2)))
      (pss_cons (ps_set (i := 4) sc_guess.nd rfl (.inl rfl) (pe_ifExp (pt_cmpR op_gt (pv 3) pe_int (nomark _)) (pe_lst (pa_cons (pe_op op_sub (pv 1) pe_int) pa_nil)) (pe_lst pa_nil)))
      (pss_cons (ps_if (pt_cmpR op_ge (pv 1) (pv 2) (nomark _)) pss_never pss_nil)
      (pss_cons (ps_setLc (i := 5) (own := [("at", 6)]) (g := gName 6) (tt := tTest (tOp (fun x y H Q => y = .non ∧ Q (.bl (!decide (x = .non))) H) (tOp (rIxL K) (tVar 0) (tVar 6)) (tC .non))) (te := tOp (rIxL K) (tVar 0) (tVar 6)) rfl sc_guess.nd rfl rfl (sw_true rfl rfl rfl (by decide +kernel)) (pi_list (pv 4)) (blkOk_by (N := ["vectors", "k", "across", "column", "beside", "some", "at", "vector"]) (sc := defScope s_guessed_vector) (by decide +kernel))
          (fun _ _ _ _ _ => pg_name (i := 6) sc_guess.nd rfl (Or.inl rfl)) (fun _ _ _ _ _ => pts_one (pt_cmpR op_notN (pe_ix ix_list (pv 0) (pv 6) (fun _ _ => rfl)) pe_non (nomark _))) (fun _ _ _ _ _ => pe_ix ix_list (pv 0) (pv 6) (fun _ _ => rfl)))
      (pss_cons (ps_if (pt_cmpR op_eq (pB call_len B.len (pa_cons (pv 5) pa_nil)) pe_int (nomark _)) (pss_one (ps_ret (pT call_tup B.tuple (pa_cons (pe_ix ix_list (pv 5) pe_int (fun _ _ => rfl)) pa_nil)))) pss_nil)
      (pss_cons (ps_set (i := 5) sc_guess.nd rfl (.inl rfl) (pe_op op_cat (pv 5) (pe_op op_rep (pe_lst (pa_cons (pe_tup (pa_cons pe_int (pa_cons pe_int pa_nil))) pa_nil)) (pe_op op_sub pe_int (pB call_len B.len (pa_cons (pv 5) pa_nil))))))
      (pss_one (ps_ret (pe_tup (pa_cons (pcall GM hr (by decide) rfl (pa_cons (pe_lc (own := [("vector", 7)]) (g := gName 7) (tt := tYes) (te := tOp (rIxT K) (tVar 7) (tC (.int 0))) rfl sc_guess.nd (pi_list (pv 5)) (blkOk_by (N := ["vectors", "k", "across", "column", "beside", "some", "at", "vector"]) (sc := defScope s_guessed_vector) (by decide +kernel)) (fun _ _ _ _ _ => pg_name (i := 7) sc_guess.nd rfl (Or.inl rfl)) (fun _ _ _ _ _ => pts_nil)
            (fun _ _ _ _ _ => pe_ix ix_tup (pv 7) pe_int (fun _ _ => rfl))) pa_nil))
          (pa_cons (pcall GM hr (by decide) rfl (pa_cons (pe_lc (own := [("vector", 7)]) (g := gName 7) (tt := tYes) (te := tOp (rIxT K) (tVar 7) (tC (.int 1))) rfl sc_guess.nd (pi_list (pv 5)) (blkOk_by (N := ["vectors", "k", "across", "column", "beside", "some", "at", "vector"]) (sc := defScope s_guessed_vector) (by decide +kernel)) (fun _ _ _ _ _ => pg_name (i := 7) sc_guess.nd rfl (Or.inl rfl)) (fun _ _ _ _ _ => pts_nil)
            (fun _ _ _ _ _ => pe_ix ix_tup (pv 7) pe_int (fun _ _ => rfl))) pa_nil)) pa_nil)))))))))), ?_⟩
    have hmod : (k : Int) % (ac : Int) = k := Int.emod_eq_of_lt (by omega) (by omega)
    refine ⟨_, rfl, _, rfl, _, _, rfl, rfl, (by show (0 : Int) < ac; omega), ?_⟩
    show gName 3 (V.int ((k : Int) % (ac : Int))) _ _ _
    rw [hmod]
    rcases hv with ⟨rfl, rfl, rfl⟩ | ⟨rfl, y, rfl, hy⟩
    · refine ⟨_, rfl, _, _, rfl, rfl, _, rfl, ite2 (fun cc => absurd (of_decide_eq_true cc) (by decide)) (fun _ => ?_)⟩
      refine ⟨by show 0 ≤ sizeLine; decide, fun lb hlb => ?_⟩
      refine ⟨_, rfl, _, rfl, _, _, rfl, rfl, _, rfl, ite2 (fun cc => absurd (of_decide_eq_true cc) (by omega)) (fun _ => ?_)⟩
      have s1 : Same H (upd H lb (.lst [])) := Same.new hlb
      have b1 : upd H lb (.lst []) lb = some (.lst []) := upd_same
      generalize upd H lb (.lst []) = H1 at s1 b1
      refine ⟨_, rfl, lb, rfl, ⟨_, .inl (.inl b1)⟩, fun L hL => lc_list (xs := []) (fun i H' => H' L = some (.lst []) ∧ Same H1 H') ⟨upd_same, Same.new hL⟩ (fun i H' _ p => .inl (.inl (p.2 _ _ b1))) (fun i x H' hx _ => nomatch hx) ?_⟩
      rintro H2 ⟨hL2, s2⟩
      have sm : Same H H2 := s1.trans s2
      refine ⟨_, rfl, _, _, rfl, .inl ⟨_, .inl (.inl hL2), rfl⟩, rfl, _, rfl, ite2 (fun cc => absurd (of_decide_eq_true cc) (by decide)) (fun _ => ?_)⟩
      refine ⟨_, rfl, by show 2 ≤ sizeLine; decide, fun t ht => ⟨by show 1 ≤ sizeLine; decide, fun l1 hl1 => ?_⟩⟩
      have nLt : L ≠ t := ne_of_none hL2 ht
      have s3 : Same H (upd (upd H2 t (.tup [.int 0, .int 0])) l1 (.lst [.ref t])) := (sm.trans (Same.new ht)).trans (Same.new hl1)
      have ntl : t ≠ l1 := fun e => by rw [← e, upd_same] at hl1; cases hl1
      have nLl : L ≠ l1 := fun e => by rw [← e, upd_ne nLt] at hl1; rw [hL2] at hl1; cases hl1
      have f1 : upd (upd H2 t (.tup [.int 0, .int 0])) l1 (.lst [.ref t]) L = some (.lst []) := by rw [upd_ne nLl, upd_ne nLt]; exact hL2
      have f2 : upd (upd H2 t (.tup [.int 0, .int 0])) l1 (.lst [.ref t]) t = some (.tup [.int 0, .int 0]) := by rw [upd_ne ntl]; exact upd_same
      have f3 : upd (upd H2 t (.tup [.int 0, .int 0])) l1 (.lst [.ref t]) l1 = some (.lst [.ref t]) := upd_same
      generalize upd (upd H2 t (.tup [.int 0, .int 0])) l1 (.lst [.ref t]) = H3 at s3 f1 f2 f3
      refine ⟨_, rfl, _, _, rfl, .inl ⟨_, .inl (.inl f1), rfl⟩, _, _, rfl, rfl, l1, 3, [.ref t], rfl, rfl, f3, by decide, by decide, by show 3 ≤ sizeLine; decide, fun r hr3 => ?_⟩
      have nLr : L ≠ r := ne_of_none f1 hr3
      have ntr : t ≠ r := ne_of_none f2 hr3
      refine ⟨L, r, [], [.ref t, .ref t, .ref t], rfl, rfl, by rw [upd_ne nLr]; exact f1, upd_same, by show 3 ≤ sizeLine; decide, fun S hS => ?_⟩
      have ntS : t ≠ S := fun e => by rw [← e, upd_ne ntr, f2] at hS; cases hS
      have s4 : Same H (upd (upd H3 r (.lst [.ref t, .ref t, .ref t])) S (.lst ([] ++ [.ref t, .ref t, .ref t]))) := (s3.trans (Same.new hr3)).trans (Same.new hS)
      have g1 : upd (upd H3 r (.lst [.ref t, .ref t, .ref t])) S (.lst ([] ++ [.ref t, .ref t, .ref t])) t = some (.tup [.int 0, .int 0]) := by rw [upd_ne ntS, upd_ne ntr]; exact f2
      have g2 : upd (upd H3 r (.lst [.ref t, .ref t, .ref t])) S (.lst ([] ++ [.ref t, .ref t, .ref t])) S = some (.lst [.ref t, .ref t, .ref t]) := upd_same
      have eh2 : upd (upd H3 r (.lst (List.replicate (Int.toNat 3) [V.ref t]).flatten)) S (.lst ([] ++ [.ref t, .ref t, .ref t])) = upd (upd H3 r (.lst [.ref t, .ref t, .ref t])) S (.lst ([] ++ [.ref t, .ref t, .ref t])) := rfl
      rw [eh2]
      generalize upd (upd H3 r (.lst [.ref t, .ref t, .ref t])) S (.lst ([] ++ [.ref t, .ref t, .ref t])) = H4 at s4 g1 g2
      refine ⟨_, rfl, S, rfl, ⟨_, .inl (.inl g2)⟩, fun D1 hD1 => lc_list (xs := [.ref t, .ref t, .ref t]) (fun i H' => H' D1 = some (.lst (List.replicate i (.int 0))) ∧ Same H4 H') ⟨upd_same, Same.new hD1⟩ (fun i H' _ p => .inl (.inl (p.2 _ _ g2))) (fun i x H' hx hp => ?_) ?_⟩
      · obtain ⟨hl, hsm⟩ := hp
        have hi : i < 3 := (List.getElem?_eq_some_iff.mp hx).1
        obtain rfl : x = .ref t := by
          match i, hx with
          | 0, hx => exact (Option.some.inj hx).symm
          | 1, hx => exact (Option.some.inj hx).symm
          | 2, hx => exact (Option.some.inj hx).symm
        exact ⟨rfl, _, rfl, t, _, 0, _, rfl, rfl, .inl (.inl (hsm _ _ g1)), atI_nat (j := 0) rfl, _, hl, by rw [List.length_replicate]; exact n_size (by omega), by rw [upd_same, List.replicate_succ'], hsm.more hD1⟩
      · rintro H5 ⟨hl5, s5⟩
        refine ⟨D1, rfl, .inl (.inl hl5), fun H6 s6 => ?_⟩
        have g3 : H6 t = some (.tup [.int 0, .int 0]) := s6 _ _ (s5 _ _ g1)
        have g4 : H6 S = some (.lst [.ref t, .ref t, .ref t]) := s6 _ _ (s5 _ _ g2)
        have s7 : Same H H6 := (s4.trans s5).trans s6
        refine ⟨_, rfl, S, rfl, ⟨_, .inl (.inl g4)⟩, fun D2 hD2 => lc_list (xs := [.ref t, .ref t, .ref t]) (fun i H' => H' D2 = some (.lst (List.replicate i (.int 0))) ∧ Same H6 H') ⟨upd_same, Same.new hD2⟩ (fun i H' _ p => .inl (.inl (p.2 _ _ g4))) (fun i x H' hx hp => ?_) ?_⟩
        · obtain ⟨hl, hsm⟩ := hp
          have hi : i < 3 := (List.getElem?_eq_some_iff.mp hx).1
          obtain rfl : x = .ref t := by
            match i, hx with
            | 0, hx => exact (Option.some.inj hx).symm
            | 1, hx => exact (Option.some.inj hx).symm
            | 2, hx => exact (Option.some.inj hx).symm
          exact ⟨rfl, _, rfl, t, _, 1, _, rfl, rfl, .inl (.inl (hsm _ _ g3)), atI_nat (j := 1) rfl, _, hl, by rw [List.length_replicate]; exact n_size (by omega), by rw [upd_same, List.replicate_succ'], hsm.more hD2⟩
        · rintro H7 ⟨hl7, s8⟩
          refine ⟨D2, rfl, .inl (.inl hl7), fun H8 s9 => ?_⟩
          exact ⟨by show 2 ≤ sizeLine; decide, fun p hp => q _ _ (((s7.trans s8).trans s9).trans (Same.new hp)) ⟨p, rfl, .inl (.inl upd_same)⟩⟩
    · have hac2 : ac = 2 := by omega
      subst hac2
      refine ⟨_, rfl, _, _, rfl, rfl, _, rfl, ite2 (fun _ => ?_) (fun cc => absurd (by decide) cc)⟩
      refine ⟨_, rfl, _, _, rfl, rfl, by show 1 ≤ sizeLine; decide, fun lb hlb => ?_⟩
      refine ⟨_, rfl, _, rfl, _, _, rfl, rfl, _, rfl, ite2 (fun cc => absurd (of_decide_eq_true cc) (by decide)) (fun _ => ?_)⟩
      have s1 : Same H (upd H lb (.lst [.int 0])) := Same.new hlb
      have b1 : upd H lb (.lst [.int 0]) lb = some (.lst [.int 0]) := upd_same
      have eh : upd H lb (.lst [.int (((1 : Nat) : Int) - 1)]) = upd H lb (.lst [.int 0]) := rfl
      rw [eh]
      generalize upd H lb (.lst [.int 0]) = H1 at s1 b1
      cases l with
      | some v =>
        obtain ⟨b, rfl, hb⟩ := hy
        refine ⟨_, rfl, lb, rfl, ⟨_, .inl (.inl b1)⟩, fun L hL => lc_list (xs := [.int 0]) (fun i H' => H' L = some (.lst (List.replicate i (.ref b))) ∧ Same H1 H') ⟨upd_same, Same.new hL⟩ (fun i H' _ p => .inl (.inl (p.2 _ _ b1))) (fun i x H' hx hp => ?_) ?_⟩
        · obtain ⟨hl, hsm⟩ := hp
          have ha' : H' a = some (.lst [.ref b]) := hsm _ _ (s1 _ _ ha)
          match i, hx with
          | 0, hx =>
            obtain rfl := Option.some.inj hx
            refine ⟨rfl, _, rfl, _, rfl, a, _, 0, _, rfl, rfl, .inl (.inl ha'), atI_nat (j := 0) rfl, rfl, _, rfl, ?_⟩
            exact ⟨_, rfl, _, rfl, a, _, 0, _, rfl, rfl, .inl (.inl ha'), atI_nat (j := 0) rfl, _, hl, by show 0 < sizeLine; decide, upd_same, hsm.more hL⟩
        · rintro H2 ⟨hL2, s2⟩
          have sm : Same H H2 := s1.trans s2
          refine ⟨_, rfl, _, _, rfl, .inl ⟨_, .inl (.inl hL2), rfl⟩, rfl, _, rfl, ite2 (fun _ => ?_) (fun cc => absurd (decide_eq_true rfl) cc)⟩
          exact ⟨_, rfl, L, _, 0, _, rfl, rfl, .inl (.inl hL2), atI_nat (j := 0) rfl, b, _, rfl, sm.seqT hb, q _ _ sm ⟨b, rfl, sm.seqT hb⟩⟩
      | none =>
        have hy : y = .non := hy
        subst hy
        refine ⟨_, rfl, lb, rfl, ⟨_, .inl (.inl b1)⟩, fun L hL => lc_list (xs := [.int 0]) (fun i H' => H' L = some (.lst []) ∧ Same H1 H') ⟨upd_same, Same.new hL⟩ (fun i H' _ p => .inl (.inl (p.2 _ _ b1))) (fun i x H' hx hp => ?_) ?_⟩
        · obtain ⟨hl, hsm⟩ := hp
          have ha' : H' a = some (.lst [.non]) := hsm _ _ (s1 _ _ ha)
          match i, hx with
          | 0, hx =>
            obtain rfl := Option.some.inj hx
            exact ⟨rfl, _, rfl, _, rfl, a, _, 0, _, rfl, rfl, .inl (.inl ha'), atI_nat (j := 0) rfl, rfl, _, rfl, hl, hsm⟩
        · rintro H2 ⟨hL2, s2⟩
          have sm : Same H H2 := s1.trans s2
          refine ⟨_, rfl, _, _, rfl, .inl ⟨_, .inl (.inl hL2), rfl⟩, rfl, _, rfl, ite2 (fun cc => absurd (of_decide_eq_true cc) (by decide)) (fun _ => ?_)⟩
          refine ⟨_, rfl, by show 2 ≤ sizeLine; decide, fun t ht => ⟨by show 1 ≤ sizeLine; decide, fun l1 hl1 => ?_⟩⟩
          have nLt : L ≠ t := ne_of_none hL2 ht
          have s3 : Same H (upd (upd H2 t (.tup [.int 0, .int 0])) l1 (.lst [.ref t])) := (sm.trans (Same.new ht)).trans (Same.new hl1)
          have ntl : t ≠ l1 := fun e => by rw [← e, upd_same] at hl1; cases hl1
          have nLl : L ≠ l1 := fun e => by rw [← e, upd_ne nLt] at hl1; rw [hL2] at hl1; cases hl1
          have f1 : upd (upd H2 t (.tup [.int 0, .int 0])) l1 (.lst [.ref t]) L = some (.lst []) := by rw [upd_ne nLl, upd_ne nLt]; exact hL2
          have f2 : upd (upd H2 t (.tup [.int 0, .int 0])) l1 (.lst [.ref t]) t = some (.tup [.int 0, .int 0]) := by rw [upd_ne ntl]; exact upd_same
          have f3 : upd (upd H2 t (.tup [.int 0, .int 0])) l1 (.lst [.ref t]) l1 = some (.lst [.ref t]) := upd_same
          generalize upd (upd H2 t (.tup [.int 0, .int 0])) l1 (.lst [.ref t]) = H3 at s3 f1 f2 f3
          refine ⟨_, rfl, _, _, rfl, .inl ⟨_, .inl (.inl f1), rfl⟩, _, _, rfl, rfl, l1, 3, [.ref t], rfl, rfl, f3, by decide, by decide, by show 3 ≤ sizeLine; decide, fun r hr3 => ?_⟩
          have nLr : L ≠ r := ne_of_none f1 hr3
          have ntr : t ≠ r := ne_of_none f2 hr3
          refine ⟨L, r, [], [.ref t, .ref t, .ref t], rfl, rfl, by rw [upd_ne nLr]; exact f1, upd_same, by show 3 ≤ sizeLine; decide, fun S hS => ?_⟩
          have ntS : t ≠ S := fun e => by rw [← e, upd_ne ntr, f2] at hS; cases hS
          have s4 : Same H (upd (upd H3 r (.lst [.ref t, .ref t, .ref t])) S (.lst ([] ++ [.ref t, .ref t, .ref t]))) := (s3.trans (Same.new hr3)).trans (Same.new hS)
          have g1 : upd (upd H3 r (.lst [.ref t, .ref t, .ref t])) S (.lst ([] ++ [.ref t, .ref t, .ref t])) t = some (.tup [.int 0, .int 0]) := by rw [upd_ne ntS, upd_ne ntr]; exact f2
          have g2 : upd (upd H3 r (.lst [.ref t, .ref t, .ref t])) S (.lst ([] ++ [.ref t, .ref t, .ref t])) S = some (.lst [.ref t, .ref t, .ref t]) := upd_same
          have eh2 : upd (upd H3 r (.lst (List.replicate (Int.toNat 3) [V.ref t]).flatten)) S (.lst ([] ++ [.ref t, .ref t, .ref t])) = upd (upd H3 r (.lst [.ref t, .ref t, .ref t])) S (.lst ([] ++ [.ref t, .ref t, .ref t])) := rfl
          rw [eh2]
          generalize upd (upd H3 r (.lst [.ref t, .ref t, .ref t])) S (.lst ([] ++ [.ref t, .ref t, .ref t])) = H4 at s4 g1 g2
          refine ⟨_, rfl, S, rfl, ⟨_, .inl (.inl g2)⟩, fun D1 hD1 => lc_list (xs := [.ref t, .ref t, .ref t]) (fun i H' => H' D1 = some (.lst (List.replicate i (.int 0))) ∧ Same H4 H') ⟨upd_same, Same.new hD1⟩ (fun i H' _ p => .inl (.inl (p.2 _ _ g2))) (fun i x H' hx hp => ?_) ?_⟩
          · obtain ⟨hl, hsm⟩ := hp
            have hi : i < 3 := (List.getElem?_eq_some_iff.mp hx).1
            obtain rfl : x = .ref t := by
              match i, hx with
              | 0, hx => exact (Option.some.inj hx).symm
              | 1, hx => exact (Option.some.inj hx).symm
              | 2, hx => exact (Option.some.inj hx).symm
            exact ⟨rfl, _, rfl, t, _, 0, _, rfl, rfl, .inl (.inl (hsm _ _ g1)), atI_nat (j := 0) rfl, _, hl, by rw [List.length_replicate]; exact n_size (by omega), by rw [upd_same, List.replicate_succ'], hsm.more hD1⟩
          · rintro H5 ⟨hl5, s5⟩
            refine ⟨D1, rfl, .inl (.inl hl5), fun H6 s6 => ?_⟩
            have g3 : H6 t = some (.tup [.int 0, .int 0]) := s6 _ _ (s5 _ _ g1)
            have g4 : H6 S = some (.lst [.ref t, .ref t, .ref t]) := s6 _ _ (s5 _ _ g2)
            have s7 : Same H H6 := (s4.trans s5).trans s6
            refine ⟨_, rfl, S, rfl, ⟨_, .inl (.inl g4)⟩, fun D2 hD2 => lc_list (xs := [.ref t, .ref t, .ref t]) (fun i H' => H' D2 = some (.lst (List.replicate i (.int 0))) ∧ Same H6 H') ⟨upd_same, Same.new hD2⟩ (fun i H' _ p => .inl (.inl (p.2 _ _ g4))) (fun i x H' hx hp => ?_) ?_⟩
            · obtain ⟨hl, hsm⟩ := hp
              have hi : i < 3 := (List.getElem?_eq_some_iff.mp hx).1
              obtain rfl : x = .ref t := by
                match i, hx with
                | 0, hx => exact (Option.some.inj hx).symm
                | 1, hx => exact (Option.some.inj hx).symm
                | 2, hx => exact (Option.some.inj hx).symm
              exact ⟨rfl, _, rfl, t, _, 1, _, rfl, rfl, .inl (.inl (hsm _ _ g3)), atI_nat (j := 1) rfl, _, hl, by rw [List.length_replicate]; exact n_size (by omega), by rw [upd_same, List.replicate_succ'], hsm.more hD2⟩
            · rintro H7 ⟨hl7, s8⟩
              refine ⟨D2, rfl, .inl (.inl hl7), fun H8 s9 => ?_⟩
              exact ⟨by show 2 ≤ sizeLine; decide, fun p hp => q _ _ (((s7.trans s8).trans s9).trans (Same.new hp)) ⟨p, rfl, .inl (.inl upd_same)⟩⟩
end K4
namespace K4
open PySem PySem.Spec PyProof.Rows L2
variable {P : Program} {w : World} {K : PySem.W.Frag} {mg : Str → Option Value} {base : Heap}
theorem sc_lvec : FnScope ["_law_vectors", "_law_k", "_law_across", "_law_some", "_law_there", "_law_vector_here", "_law_one"] ["_law_vectors", "_law_k", "_law_across"] (defScope s_law_vector) := ⟨rfl, rfl, rfl, by decide +kernel, rfl, by decide +kernel, by decide +kernel⟩
theorem d_lvec (B : Bt mg) (D : Df K mg "_law_vector" s_law_vector) : Dk P w K mg base CX0 1 "_law_vector" ["_law_vectors", "_law_k", "_law_across"] (spGuess K) := by
  refine Dk.mk' D sc_lvec (fun _ _ _ _ _ _ us hl => match us, hl with | [_, _, _], _ => rfl) (fun vs H Q E h => ?_) (fun cdv A outer s H vs Q E hr h => ?_)
  · obtain ⟨a, k, ac, l, ys, rfl, _⟩ := h
    rfl
  · obtain ⟨a, k, ac, l, ys, rfl, hk, hac, ha, hv, q⟩ := h
    refine ⟨_, pss_cons (ps_set (i := 3) sc_lvec.nd rfl (.inl rfl) (pe_lst pa_nil))
      (pss_cons (ps_if (pt_cmpR op_gt (pe_op op_mod (pv 1) (pv 2)) pe_int (nomark _)) (pss_one (ps_expr (pe_bm PySem.F.plainAttrs_list PySem.F.slot_list_append PySem.F.type_list_append mt_append (pv 3) (pa_cons (pe_ix ix_list (pv 0) (pe_op op_sub (pv 1) pe_int) (fun _ _ => rfl)) pa_nil)))) pss_nil)
      (pss_cons (ps_if (pt_cmpR op_ge (pv 1) (pv 2) (nomark _)) pss_never pss_nil)
      (pss_cons (ps_setLc (i := 4) (own := [("_law_vector_here", 5)]) (g := gName 5) (tt := tTest (tOp (fun x y H Q => y = .non ∧ Q (.bl (!decide (x = .non))) H) (tVar 5) (tC .non))) (te := tVar 5) rfl sc_lvec.nd rfl rfl (sw_true rfl rfl rfl (by decide +kernel)) (pi_list (pv 3)) (blkOk_by (N := ["_law_vectors", "_law_k", "_law_across", "_law_some", "_law_there", "_law_vector_here", "_law_one"]) (sc := defScope s_law_vector) (by decide +kernel))
          (fun _ _ _ _ _ => pg_name (i := 5) sc_lvec.nd rfl (Or.inl rfl)) (fun _ _ _ _ _ => pts_one (pt_cmpR op_notN (pv 5) pe_non (nomark _))) (fun _ _ _ _ _ => pv 5))
      (pss_cons (ps_if (pt_cmpR op_eq (pB call_len B.len (pa_cons (pv 4) pa_nil)) pe_int (nomark _)) (pss_one (ps_ret (pe_ix ix_list (pv 4) pe_int (fun _ _ => rfl)))) pss_nil)
      (pss_cons (ps_set (i := 4) sc_lvec.nd rfl (.inl rfl) (pe_slice sl_list (pe_op op_cat (pv 4) (pe_op op_rep (pe_lst (pa_cons (pe_tup (pa_cons pe_int (pa_cons pe_int pa_nil))) pa_nil)) pe_int)) po_none (po_some pe_int)))
      (pss_one (ps_ret (pe_tup (pa_cons (pe_ix ix_list (pB cr_sortedI B.sorted (pa_cons (pe_lc (own := [("_law_one", 6)]) (g := gName 6) (tt := tYes) (te := tOp (rIxT K) (tVar 6) (tC (.int 0))) rfl sc_lvec.nd (pi_list (pv 4)) (blkOk_by (N := ["_law_vectors", "_law_k", "_law_across", "_law_some", "_law_there", "_law_vector_here", "_law_one"]) (sc := defScope s_law_vector) (by decide +kernel)) (fun _ _ _ _ _ => pg_name (i := 6) sc_lvec.nd rfl (Or.inl rfl)) (fun _ _ _ _ _ => pts_nil) (fun _ _ _ _ _ => pe_ix ix_tup (pv 6) pe_int (fun _ _ => rfl))) pa_nil)) pe_int (fun _ _ => rfl)) (pa_cons (pe_ix ix_list (pB cr_sortedI B.sorted (pa_cons (pe_lc (own := [("_law_one", 6)]) (g := gName 6) (tt := tYes) (te := tOp (rIxT K) (tVar 6) (tC (.int 1))) rfl sc_lvec.nd (pi_list (pv 4)) (blkOk_by (N := ["_law_vectors", "_law_k", "_law_across", "_law_some", "_law_there", "_law_vector_here", "_law_one"]) (sc := defScope s_law_vector) (by decide +kernel)) (fun _ _ _ _ _ => pg_name (i := 6) sc_lvec.nd rfl (Or.inl rfl)) (fun _ _ _ _ _ => pts_nil) (fun _ _ _ _ _ => pe_ix ix_tup (pv 6) pe_int (fun _ _ => rfl))) pa_nil)) pe_int (fun _ _ => rfl)) pa_nil)))))))))), ?_⟩
    have hmod : (k : Int) % (ac : Int) = k := Int.emod_eq_of_lt (by omega) (by omega)
    refine ⟨by show 0 ≤ sizeLine; decide, fun lb hlb => ?_⟩
    refine ⟨_, rfl, _, rfl, _, _, rfl, rfl, (by show (0 : Int) < ac; omega), _, _, rfl, rfl, _, rfl, ?_⟩
    rw [hmod]
    rcases hv with ⟨rfl, rfl, rfl⟩ | ⟨rfl, y, rfl, hy⟩
    · refine ite2 (fun cc => absurd (of_decide_eq_true cc) (by decide)) (fun _ => ?_)
      refine ⟨_, rfl, _, rfl, _, _, rfl, rfl, _, rfl, ite2 (fun cc => absurd (of_decide_eq_true cc) (by omega)) (fun _ => ?_)⟩
      have s1 : Same H (upd H lb (.lst [])) := Same.new hlb
      have b1 : upd H lb (.lst []) lb = some (.lst []) := upd_same
      generalize upd H lb (.lst []) = H1 at s1 b1
      refine ⟨_, rfl, lb, rfl, ⟨_, .inl (.inl b1)⟩, fun L hL => lc_list (xs := []) (fun i H' => H' L = some (.lst []) ∧ Same H1 H') ⟨upd_same, Same.new hL⟩ (fun i H' _ p => .inl (.inl (p.2 _ _ b1))) (fun i x H' hx _ => nomatch hx) ?_⟩
      rintro H2 ⟨hL2, s2⟩
      have sm : Same H H2 := s1.trans s2
      refine ⟨_, rfl, _, _, rfl, .inl ⟨_, .inl (.inl hL2), rfl⟩, rfl, _, rfl, ite2 (fun cc => absurd (of_decide_eq_true cc) (by decide)) (fun _ => ?_)⟩
      refine ⟨_, rfl, by show 2 ≤ sizeLine; decide, fun t ht => ⟨by show 1 ≤ sizeLine; decide, fun l1 hl1 => ?_⟩⟩
      have nLt : L ≠ t := ne_of_none hL2 ht
      have s3 : Same H (upd (upd H2 t (.tup [.int 0, .int 0])) l1 (.lst [.ref t])) := (sm.trans (Same.new ht)).trans (Same.new hl1)
      have ntl : t ≠ l1 := fun e => by rw [← e, upd_same] at hl1; cases hl1
      have nLl : L ≠ l1 := fun e => by rw [← e, upd_ne nLt] at hl1; rw [hL2] at hl1; cases hl1
      have f1 : upd (upd H2 t (.tup [.int 0, .int 0])) l1 (.lst [.ref t]) L = some (.lst []) := by rw [upd_ne nLl, upd_ne nLt]; exact hL2
      have f2 : upd (upd H2 t (.tup [.int 0, .int 0])) l1 (.lst [.ref t]) t = some (.tup [.int 0, .int 0]) := by rw [upd_ne ntl]; exact upd_same
      have f3 : upd (upd H2 t (.tup [.int 0, .int 0])) l1 (.lst [.ref t]) l1 = some (.lst [.ref t]) := upd_same
      generalize upd (upd H2 t (.tup [.int 0, .int 0])) l1 (.lst [.ref t]) = H3 at s3 f1 f2 f3
      refine ⟨l1, 3, [.ref t], rfl, rfl, f3, by decide, by decide, by show 3 ≤ sizeLine; decide, fun r hr3 => ?_⟩
      have nLr : L ≠ r := ne_of_none f1 hr3
      have ntr : t ≠ r := ne_of_none f2 hr3
      refine ⟨L, r, [], [.ref t, .ref t, .ref t], rfl, rfl, by rw [upd_ne nLr]; exact f1, upd_same, by show 3 ≤ sizeLine; decide, fun S0 hS0 => ?_⟩
      refine ⟨3, rfl, S0, [.ref t, .ref t, .ref t], rfl, .inl (.inl upd_same), fun S hS => ?_⟩
      have ntS0 : t ≠ S0 := fun e => by rw [← e, upd_ne ntr, f2] at hS0; cases hS0
      have ntS : t ≠ S := fun e => by rw [← e, upd_ne ntS0, upd_ne ntr, f2] at hS; cases hS
      have s4 : Same H (upd (upd (upd H3 r (.lst [.ref t, .ref t, .ref t])) S0 (.lst ([] ++ [.ref t, .ref t, .ref t]))) S (.lst [.ref t, .ref t, .ref t])) := ((s3.trans (Same.new hr3)).trans (Same.new hS0)).trans (Same.new hS)
      have g1 : upd (upd (upd H3 r (.lst [.ref t, .ref t, .ref t])) S0 (.lst ([] ++ [.ref t, .ref t, .ref t]))) S (.lst [.ref t, .ref t, .ref t]) t = some (.tup [.int 0, .int 0]) := by rw [upd_ne ntS, upd_ne ntS0, upd_ne ntr]; exact f2
      have g2 : upd (upd (upd H3 r (.lst [.ref t, .ref t, .ref t])) S0 (.lst ([] ++ [.ref t, .ref t, .ref t]))) S (.lst [.ref t, .ref t, .ref t]) S = some (.lst [.ref t, .ref t, .ref t]) := upd_same
      have eh2 : upd (upd (upd H3 r (.lst (List.replicate (Int.toNat 3) [V.ref t]).flatten)) S0 (.lst ([] ++ [.ref t, .ref t, .ref t]))) S (.lst (cutV [V.ref t, .ref t, .ref t] none (some 3))) = upd (upd (upd H3 r (.lst [.ref t, .ref t, .ref t])) S0 (.lst ([] ++ [.ref t, .ref t, .ref t]))) S (.lst [.ref t, .ref t, .ref t]) := rfl
      rw [eh2]
      generalize upd (upd (upd H3 r (.lst [.ref t, .ref t, .ref t])) S0 (.lst ([] ++ [.ref t, .ref t, .ref t]))) S (.lst [.ref t, .ref t, .ref t]) = H4 at s4 g1 g2
      refine ⟨_, rfl, S, rfl, ⟨_, .inl (.inl g2)⟩, fun D1 hD1 => lc_list (xs := [.ref t, .ref t, .ref t]) (fun i H' => H' D1 = some (.lst (List.replicate i (.int 0))) ∧ Same H4 H') ⟨upd_same, Same.new hD1⟩ (fun i H' _ p => .inl (.inl (p.2 _ _ g2))) (fun i x H' hx hp => ?_) ?_⟩
      · obtain ⟨hl, hsm⟩ := hp
        have hi : i < 3 := (List.getElem?_eq_some_iff.mp hx).1
        obtain rfl : x = .ref t := by
          match i, hx with
          | 0, hx => exact (Option.some.inj hx).symm
          | 1, hx => exact (Option.some.inj hx).symm
          | 2, hx => exact (Option.some.inj hx).symm
        exact ⟨rfl, _, rfl, t, _, 0, _, rfl, rfl, .inl (.inl (hsm _ _ g1)), atI_nat (j := 0) rfl, _, hl, by rw [List.length_replicate]; exact n_size (by omega), by rw [upd_same, List.replicate_succ'], hsm.more hD1⟩
      · rintro H5 ⟨hl5, s5⟩
        refine ⟨D1, [0, 0, 0], rfl, .inl (.inl hl5), fun ns p1 hp1 _ hn1 => ?_⟩
        obtain rfl := sorted000 hp1
        refine ⟨p1, _, 1, _, rfl, rfl, .inl (.inl upd_same), atI_nat (j := 1) rfl, ?_⟩
        have s6 : Same H5 (upd H5 p1 (.lst (([0, 0, 0] : List Int).map V.int))) := Same.new hn1
        generalize upd H5 p1 (.lst (([0, 0, 0] : List Int).map V.int)) = H6 at s6
        have g3 : H6 t = some (.tup [.int 0, .int 0]) := s6 _ _ (s5 _ _ g1)
        have g4 : H6 S = some (.lst [.ref t, .ref t, .ref t]) := s6 _ _ (s5 _ _ g2)
        have s7 : Same H H6 := (s4.trans s5).trans s6
        refine ⟨_, rfl, S, rfl, ⟨_, .inl (.inl g4)⟩, fun D2 hD2 => lc_list (xs := [.ref t, .ref t, .ref t]) (fun i H' => H' D2 = some (.lst (List.replicate i (.int 0))) ∧ Same H6 H') ⟨upd_same, Same.new hD2⟩ (fun i H' _ p => .inl (.inl (p.2 _ _ g4))) (fun i x H' hx hp => ?_) ?_⟩
        · obtain ⟨hl, hsm⟩ := hp
          have hi : i < 3 := (List.getElem?_eq_some_iff.mp hx).1
          obtain rfl : x = .ref t := by
            match i, hx with
            | 0, hx => exact (Option.some.inj hx).symm
            | 1, hx => exact (Option.some.inj hx).symm
            | 2, hx => exact (Option.some.inj hx).symm
          exact ⟨rfl, _, rfl, t, _, 1, _, rfl, rfl, .inl (.inl (hsm _ _ g3)), atI_nat (j := 1) rfl, _, hl, by rw [List.length_replicate]; exact n_size (by omega), by rw [upd_same, List.replicate_succ'], hsm.more hD2⟩
        · rintro H7 ⟨hl7, s8⟩
          refine ⟨D2, [0, 0, 0], rfl, .inl (.inl hl7), fun ns p2 hp2 _ hn2 => ?_⟩
          obtain rfl := sorted000 hp2
          refine ⟨p2, _, 1, _, rfl, rfl, .inl (.inl upd_same), atI_nat (j := 1) rfl, ?_⟩
          exact ⟨by show 2 ≤ sizeLine; decide, fun p hp => q _ _ (((s7.trans s8).trans (Same.new hn2)).trans (Same.new hp)) ⟨p, rfl, .inl (.inl upd_same)⟩⟩
    · have hac2 : ac = 2 := by omega
      subst hac2
      have nab : a ≠ lb := ne_of_none ha hlb
      refine ite2 (fun _ => ?_) (fun cc => absurd (by decide) cc)
      refine ⟨_, rfl, .inl ⟨rfl, _, .inl (.inl upd_same)⟩, _, rfl, _, rfl, _, _, rfl, rfl, ?_⟩
      refine ⟨a, _, 0, _, rfl, rfl, .inl (.inl (by rw [upd_ne nab]; exact ha)), atI_nat (j := 0) rfl, lb, _, _, rfl, rfl, upd_same, by show 0 < sizeLine; decide, ?_⟩
      rw [upd_upd]
      refine ⟨_, rfl, _, rfl, _, _, rfl, rfl, _, rfl, ite2 (fun cc => absurd (of_decide_eq_true cc) (by decide)) (fun _ => ?_)⟩
      have s1 : Same H (upd H lb (.lst ([] ++ [y]))) := Same.new hlb
      have b1 : upd H lb (.lst ([] ++ [y])) lb = some (.lst [y]) := upd_same
      generalize upd H lb (.lst ([] ++ [y])) = H1 at s1 b1
      cases l with
      | some v =>
        obtain ⟨b, rfl, hb⟩ := hy
        refine ⟨_, rfl, lb, rfl, ⟨_, .inl (.inl b1)⟩, fun L hL => lc_list (xs := [.ref b]) (fun i H' => H' L = some (.lst (List.replicate i (.ref b))) ∧ Same H1 H') ⟨upd_same, Same.new hL⟩ (fun i H' _ p => .inl (.inl (p.2 _ _ b1))) (fun i x H' hx hp => ?_) ?_⟩
        · obtain ⟨hl, hsm⟩ := hp
          match i, hx with
          | 0, hx =>
            obtain rfl := Option.some.inj hx
            exact ⟨rfl, _, rfl, rfl, _, rfl, _, rfl, _, hl, by show 0 < sizeLine; decide, upd_same, hsm.more hL⟩
        · rintro H2 ⟨hL2, s2⟩
          have sm : Same H H2 := s1.trans s2
          refine ⟨_, rfl, _, _, rfl, .inl ⟨_, .inl (.inl hL2), rfl⟩, rfl, _, rfl, ite2 (fun _ => ?_) (fun cc => absurd (decide_eq_true rfl) cc)⟩
          exact ⟨_, rfl, L, _, 0, _, rfl, rfl, .inl (.inl hL2), atI_nat (j := 0) rfl, q _ _ sm ⟨b, rfl, sm.seqT hb⟩⟩
      | none =>
        have hy : y = .non := hy
        subst hy
        refine ⟨_, rfl, lb, rfl, ⟨_, .inl (.inl b1)⟩, fun L hL => lc_list (xs := [.non]) (fun i H' => H' L = some (.lst []) ∧ Same H1 H') ⟨upd_same, Same.new hL⟩ (fun i H' _ p => .inl (.inl (p.2 _ _ b1))) (fun i x H' hx hp => ?_) ?_⟩
        · obtain ⟨hl, hsm⟩ := hp
          match i, hx with
          | 0, hx =>
            obtain rfl := Option.some.inj hx
            exact ⟨rfl, _, rfl, rfl, _, rfl, hl, hsm⟩
        · rintro H2 ⟨hL2, s2⟩
          have sm : Same H H2 := s1.trans s2
          refine ⟨_, rfl, _, _, rfl, .inl ⟨_, .inl (.inl hL2), rfl⟩, rfl, _, rfl, ite2 (fun cc => absurd (of_decide_eq_true cc) (by decide)) (fun _ => ?_)⟩
          refine ⟨_, rfl, by show 2 ≤ sizeLine; decide, fun t ht => ⟨by show 1 ≤ sizeLine; decide, fun l1 hl1 => ?_⟩⟩
          have nLt : L ≠ t := ne_of_none hL2 ht
          have s3 : Same H (upd (upd H2 t (.tup [.int 0, .int 0])) l1 (.lst [.ref t])) := (sm.trans (Same.new ht)).trans (Same.new hl1)
          have ntl : t ≠ l1 := fun e => by rw [← e, upd_same] at hl1; cases hl1
          have nLl : L ≠ l1 := fun e => by rw [← e, upd_ne nLt] at hl1; rw [hL2] at hl1; cases hl1
          have f1 : upd (upd H2 t (.tup [.int 0, .int 0])) l1 (.lst [.ref t]) L = some (.lst []) := by rw [upd_ne nLl, upd_ne nLt]; exact hL2
          have f2 : upd (upd H2 t (.tup [.int 0, .int 0])) l1 (.lst [.ref t]) t = some (.tup [.int 0, .int 0]) := by rw [upd_ne ntl]; exact upd_same
          have f3 : upd (upd H2 t (.tup [.int 0, .int 0])) l1 (.lst [.ref t]) l1 = some (.lst [.ref t]) := upd_same
          generalize upd (upd H2 t (.tup [.int 0, .int 0])) l1 (.lst [.ref t]) = H3 at s3 f1 f2 f3
          refine ⟨l1, 3, [.ref t], rfl, rfl, f3, by decide, by decide, by show 3 ≤ sizeLine; decide, fun r hr3 => ?_⟩
          have nLr : L ≠ r := ne_of_none f1 hr3
          have ntr : t ≠ r := ne_of_none f2 hr3
          refine ⟨L, r, [], [.ref t, .ref t, .ref t], rfl, rfl, by rw [upd_ne nLr]; exact f1, upd_same, by show 3 ≤ sizeLine; decide, fun S0 hS0 => ?_⟩
          refine ⟨3, rfl, S0, [.ref t, .ref t, .ref t], rfl, .inl (.inl upd_same), fun S hS => ?_⟩
          have ntS0 : t ≠ S0 := fun e => by rw [← e, upd_ne ntr, f2] at hS0; cases hS0
          have ntS : t ≠ S := fun e => by rw [← e, upd_ne ntS0, upd_ne ntr, f2] at hS; cases hS
          have s4 : Same H (upd (upd (upd H3 r (.lst [.ref t, .ref t, .ref t])) S0 (.lst ([] ++ [.ref t, .ref t, .ref t]))) S (.lst [.ref t, .ref t, .ref t])) := ((s3.trans (Same.new hr3)).trans (Same.new hS0)).trans (Same.new hS)
          have g1 : upd (upd (upd H3 r (.lst [.ref t, .ref t, .ref t])) S0 (.lst ([] ++ [.ref t, .ref t, .ref t]))) S (.lst [.ref t, .ref t, .ref t]) t = some (.tup [.int 0, .int 0]) := by rw [upd_ne ntS, upd_ne ntS0, upd_ne ntr]; exact f2
          have g2 : upd (upd (upd H3 r (.lst [.ref t, .ref t, .ref t])) S0 (.lst ([] ++ [.ref t, .ref t, .ref t]))) S (.lst [.ref t, .ref t, .ref t]) S = some (.lst [.ref t, .ref t, .ref t]) := upd_same
          have eh2 : upd (upd (upd H3 r (.lst (List.replicate (Int.toNat 3) [V.ref t]).flatten)) S0 (.lst ([] ++ [.ref t, .ref t, .ref t]))) S (.lst (cutV [V.ref t, .ref t, .ref t] none (some 3))) = upd (upd (upd H3 r (.lst [.ref t, .ref t, .ref t])) S0 (.lst ([] ++ [.ref t, .ref t, .ref t]))) S (.lst [.ref t, .ref t, .ref t]) := rfl
          rw [eh2]
          generalize upd (upd (upd H3 r (.lst [.ref t, .ref t, .ref t])) S0 (.lst ([] ++ [.ref t, .ref t, .ref t]))) S (.lst [.ref t, .ref t, .ref t]) = H4 at s4 g1 g2
          refine ⟨_, rfl, S, rfl, ⟨_, .inl (.inl g2)⟩, fun D1 hD1 => lc_list (xs := [.ref t, .ref t, .ref t]) (fun i H' => H' D1 = some (.lst (List.replicate i (.int 0))) ∧ Same H4 H') ⟨upd_same, Same.new hD1⟩ (fun i H' _ p => .inl (.inl (p.2 _ _ g2))) (fun i x H' hx hp => ?_) ?_⟩
          · obtain ⟨hl, hsm⟩ := hp
            have hi : i < 3 := (List.getElem?_eq_some_iff.mp hx).1
            obtain rfl : x = .ref t := by
              match i, hx with
              | 0, hx => exact (Option.some.inj hx).symm
              | 1, hx => exact (Option.some.inj hx).symm
              | 2, hx => exact (Option.some.inj hx).symm
            exact ⟨rfl, _, rfl, t, _, 0, _, rfl, rfl, .inl (.inl (hsm _ _ g1)), atI_nat (j := 0) rfl, _, hl, by rw [List.length_replicate]; exact n_size (by omega), by rw [upd_same, List.replicate_succ'], hsm.more hD1⟩
          · rintro H5 ⟨hl5, s5⟩
            refine ⟨D1, [0, 0, 0], rfl, .inl (.inl hl5), fun ns p1 hp1 _ hn1 => ?_⟩
            obtain rfl := sorted000 hp1
            refine ⟨p1, _, 1, _, rfl, rfl, .inl (.inl upd_same), atI_nat (j := 1) rfl, ?_⟩
            have s6 : Same H5 (upd H5 p1 (.lst (([0, 0, 0] : List Int).map V.int))) := Same.new hn1
            generalize upd H5 p1 (.lst (([0, 0, 0] : List Int).map V.int)) = H6 at s6
            have g3 : H6 t = some (.tup [.int 0, .int 0]) := s6 _ _ (s5 _ _ g1)
            have g4 : H6 S = some (.lst [.ref t, .ref t, .ref t]) := s6 _ _ (s5 _ _ g2)
            have s7 : Same H H6 := (s4.trans s5).trans s6
            refine ⟨_, rfl, S, rfl, ⟨_, .inl (.inl g4)⟩, fun D2 hD2 => lc_list (xs := [.ref t, .ref t, .ref t]) (fun i H' => H' D2 = some (.lst (List.replicate i (.int 0))) ∧ Same H6 H') ⟨upd_same, Same.new hD2⟩ (fun i H' _ p => .inl (.inl (p.2 _ _ g4))) (fun i x H' hx hp => ?_) ?_⟩
            · obtain ⟨hl, hsm⟩ := hp
              have hi : i < 3 := (List.getElem?_eq_some_iff.mp hx).1
              obtain rfl : x = .ref t := by
                match i, hx with
                | 0, hx => exact (Option.some.inj hx).symm
                | 1, hx => exact (Option.some.inj hx).symm
                | 2, hx => exact (Option.some.inj hx).symm
              exact ⟨rfl, _, rfl, t, _, 1, _, rfl, rfl, .inl (.inl (hsm _ _ g3)), atI_nat (j := 1) rfl, _, hl, by rw [List.length_replicate]; exact n_size (by omega), by rw [upd_same, List.replicate_succ'], hsm.more hD2⟩
            · rintro H7 ⟨hl7, s8⟩
              refine ⟨D2, [0, 0, 0], rfl, .inl (.inl hl7), fun ns p2 hp2 _ hn2 => ?_⟩
              obtain rfl := sorted000 hp2
              refine ⟨p2, _, 1, _, rfl, rfl, .inl (.inl upd_same), atI_nat (j := 1) rfl, ?_⟩
              exact ⟨by show 2 ≤ sizeLine; decide, fun p hp => q _ _ (((s7.trans s8).trans (Same.new hn2)).trans (Same.new hp)) ⟨p, rfl, .inl (.inl upd_same)⟩⟩
end K4
namespace K4
open PySem PySem.Spec PyProof.Rows L2
variable {P : Program} {w : World} {K : PySem.W.Frag} {mg : Str → Option Value} {base : Heap}
/-! ### the writer's blocks -/
section
variable {C p d : Addr} {ex : Nat → List (Str × V)} {H H' : Hp} {s : CS Str}
theorem CoS.same (S : CoS C ex p d H s) (e : Same H H') : CoS C ex p d H' s := by
  obtain ⟨⟨⟨dx, hp⟩, ok⟩, kvs, hd, r⟩ := S
  exact ⟨⟨⟨dx, e _ _ hp⟩, ok⟩, kvs, e _ _ hd, r⟩
theorem CoS.tk (S : CoS C ex p d H s) (b : But p d H H') : TK K H H' := by
  obtain ⟨⟨⟨dx, hp⟩, ok⟩, kvs, hd, r⟩ := S
  exact TK.but b (by rw [hp]; trivial) (by rw [hd]; trivial)
end
theorem numE_len {nm : Nat → Str} {most n : Int} (h0 : 0 ≤ n) (h1 : n ≤ most) (h2 : most ≤ 8190) : (numE nm most n).length ≤ 24 := by
  have hg : lg (most + 1) ≤ 12 := lg_le (by omega)
  exact (num_codec nm (by omega)).len ((num_len nm most rfl).mono (by omega)) ⟨h0, h1⟩
section
variable {C : Addr}
def spWVec (K : PySem.W.Frag) (C : Addr) : Sp := fun vs H Q _ => ∃ (p d : Addr) (vx gx : V) (v g : Vec) (s : CS Str), vs = [.ref p, vx, gx] ∧ IsV K H vx v ∧ IsV K H gx g ∧ CoS C ex0 p d H s ∧ s.m ≤ 7900 ∧ ∀ H', CoS C ex0 p d H' (steps s (vecE MM g v)) → But p d H H' → Q .non H'
theorem sc_wvec : FnScope ["writer", "vector", "guess", "name", "part", "guessed"] ["writer", "vector", "guess"] (defScope s_write_vector) := ⟨rfl, rfl, rfl, by decide +kernel, rfl, by decide +kernel, by decide +kernel⟩
theorem str_xy : ("x" : Str).length ≤ 1000 ∧ ("y" : Str).length ≤ 1000 := by decide +kernel
theorem mod65 (z : Int) : 0 ≤ z % 65 ∧ z % 65 ≤ 64 := ⟨Int.emod_nonneg _ (by decide), by have := Int.emod_lt_of_pos z (show (0 : Int) < 65 by decide); omega⟩
theorem d_wvec (B : Bt mg) (N : Ct mg) (D : Df K mg "write_vector" s_write_vector) (GN : Mk4 P w K mg base 4 C "number" ["self", "name", "n", "most"] (spWNum C ex0)) : Dk P w K mg base CX0 5 "write_vector" ["writer", "vector", "guess"] (spWVec K C) := by
  refine Dk.mk' D sc_wvec (fun _ _ _ _ _ _ us hl => match us, hl with | [_, _, _], _ => rfl) (fun vs H Q E h => ?_) (fun cdv A outer s H vs Q E hr h => ?_)
  · obtain ⟨p, d, vx, gx, v, g, s, rfl, _⟩ := h
    rfl
  · obtain ⟨p, d, vx, gx, v, g, s1, rfl, ⟨a, rfl, ha⟩, ⟨b, rfl, hb⟩, S, hm, q⟩ := h
    refine ⟨_, pss_one (ps_for PassesOwn.never rfl (pi_zip3 rfl B.zip (pa_cons (pe_tup (pa_cons pe_str (pa_cons pe_str pa_nil))) (pa_cons (pv 1) (pa_cons (pv 2) pa_nil)))) (pg_tup (by rfl) (pgs_cons (pg_name (i := 3) sc_wvec.nd rfl (.inl rfl)) (pgs_cons (pg_name (i := 4) sc_wvec.nd rfl (.inl rfl)) (pgs_cons (pg_name (i := 5) sc_wvec.nd rfl (.inl rfl)) pgs_nil))))
      (pss_one (ps_expr (pmeth GN hr (by decide) (pv 0) (pa_cons (pv 3) (pa_cons (pe_op op_mod (pe_op op_sub (pv 4) (pv 5)) (pgI N.turn)) (pa_cons (pe_op op_sub (pgI N.turn) pe_int) pa_nil))))))), ?_⟩
    refine ⟨by show 2 ≤ sizeLine; decide, fun t ht => ⟨_, rfl, _, rfl, t, a, b, [.str "x", .str "y"], [.int v.1, .int v.2], [.int g.1, .int g.2], rfl, .inl (.inl upd_same), (Same.new ht).seqT ha, (Same.new ht).seqT hb, ?_⟩⟩
    have sm0 : Same H (upd H t (.tup [.str "x", .str "y"])) := Same.new ht
    have tt0 : upd H t (.tup [.str "x", .str "y"]) t = some (.tup [.str "x", .str "y"]) := upd_same
    generalize upd H t (.tup [.str "x", .str "y"]) = H0 at sm0 tt0
    have S0 := S.same sm0
    refine for_zip3 (xs := [.str "x", .str "y"]) (ys := [.int v.1, .int v.2]) (zs := [.int g.1, .int g.2]) rfl rfl (fun i σ H' => ∃ z1 z2 z3, σ = [some (.ref p), some (.ref a), some (.ref b), z1, z2, z3] ∧ But p d H0 H' ∧
      CoS C ex0 p d H' (if i = 0 then s1 else if i = 1 then steps s1 (numE MM.x 64 ((v.1 - g.1) % 65)) else steps s1 (vecE MM g v))) ⟨none, none, none, rfl, But.refl _, S0⟩ ?_ ?_ ?_
    · rintro i σ H' ⟨z1, z2, z3, rfl, b1, S1⟩
      have k := S0.tk (K := K) b1
      exact ⟨k _ _ (.inl (.inl tt0)), k _ _ (sm0.seqT ha), k _ _ (sm0.seqT hb)⟩
    · rintro i x y z T σ H' hx hy hz ⟨z1, z2, z3, rfl, b1, S1⟩ hT
      have sT : Same H' (upd H' T (.tup [x, y, z])) := Same.new hT
      have S2 := S1.same sT
      have hl := numE_len (nm := MM.x) (mod65 (v.1 - g.1)).1 (mod65 (v.1 - g.1)).2 (by decide)
      refine ⟨T, _, rfl, .inl (.inl upd_same), rfl, _, _, rfl, _, _, rfl, _, _, rfl, rfl, ?_⟩
      obtain ⟨dx, hp⟩ := S2.ob
      match i, hx, hy, hz, S2, hp with
      | 0, hx, hy, hz, S2, hp =>
        obtain rfl := Option.some.inj hx
        obtain rfl := Option.some.inj hy
        obtain rfl := Option.some.inj hz
        refine ⟨_, rfl, p, dx, _, rfl, hp, cf_meth ex0_no, _, rfl, _, rfl, _, rfl, _, _, rfl, rfl, _, _, rfl, rfl, by show (0 : Int) < 65; decide, _, _, rfl, rfl, ?_⟩
        refine ⟨p, d, "x", (v.1 - g.1) % 65, 64, s1, rfl, str_xy.1, (mod65 _).1, (mod65 _).2, by decide, S2, by omega, fun H3 S3 b3 => ?_⟩
        exact ⟨_, _, _, rfl, (b1.trans (But.of_same sT)).trans b3, S3⟩
      | 1, hx, hy, hz, S2, hp =>
        obtain rfl := Option.some.inj hx
        obtain rfl := Option.some.inj hy
        obtain rfl := Option.some.inj hz
        refine ⟨_, rfl, p, dx, _, rfl, hp, cf_meth ex0_no, _, rfl, _, rfl, _, rfl, _, _, rfl, rfl, _, _, rfl, rfl, by show (0 : Int) < 65; decide, _, _, rfl, rfl, ?_⟩
        refine ⟨p, d, "y", (v.2 - g.2) % 65, 64, steps s1 (numE MM.x 64 ((v.1 - g.1) % 65)), rfl, str_xy.2, (mod65 _).1, (mod65 _).2, by decide, S2, by rw [steps_m]; omega, fun H3 S3 b3 => ?_⟩
        refine ⟨_, _, _, rfl, (b1.trans (But.of_same sT)).trans b3, ?_⟩
        show CoS C ex0 p d H3 (steps s1 (numE MM.x 64 ((v.1 - g.1) % 65) ++ (numE MM.y 64 ((v.2 - g.2) % 65) ++ [])))
        rw [List.append_nil, steps_append]
        exact S3
    · rintro σ H' ⟨z1, z2, z3, rfl, b1, S1⟩
      exact q _ S1 ((But.of_same sm0).trans b1)
/-! write_rest -/
def ordL : List Int := [0, 1, 4, 8, 5, 2, 3, 6, 9, 12, 13, 10, 7, 11, 14, 15]
theorem ord_at : ∀ i < 16, ∃ pl, pl < 16 ∧ order.drop i = (i, pl) :: order.drop (i + 1) ∧ ordL[i]? = some (pl : Int) := by
  intro i hi
  have key : ∀ i < 16, ∃ pl < 16, order.drop i = (i, pl) :: order.drop (i + 1) ∧ ordL[i]? = some (pl : Int) := by decide
  obtain ⟨pl, h1, h2⟩ := key i hi
  exact ⟨pl, h1, h2⟩
theorem ord_end : order.drop 16 = [] := rfl
def spWRest (K : PySem.W.Frag) (C : Addr) : Sp := fun vs H Q _ => ∃ (p d : Addr) (rx : V) (r : List Int) (s : CS Str), vs = [.ref p, rx] ∧ IsR K H rx r ∧ restOk r ∧ CoS C ex0 p d H s ∧ s.m ≤ 7000 ∧ ∀ H', CoS C ex0 p d H' (steps s (restE MM r)) → But p d H H' → Q .non H'
theorem sc_wrest : FnScope ["writer", "rest", "at", "place", "number"] ["writer", "rest"] (defScope s_write_rest) := ⟨rfl, rfl, rfl, by decide +kernel, rfl, by decide +kernel, by decide +kernel⟩
theorem zeros_eq : zeros = List.replicate 16 (0 : Int) := rfl
theorem snumE_eq (nm : Nat → Str) (z : Int) : snumE nm z = numE nm 4000 (absI z) ++ (if z = 0 then [] else [(none, decide (z < 0))]) := rfl
theorem d_wrest (B : Bt mg) (N : Ct mg) (T : Tb K w mg) (D : Df K mg "write_rest" s_write_rest) (GB : Mk4 P w K mg base 3 C "bit" ["self", "name", "value"] (spWBit C ex0)) (GE : Mk4 P w K mg base 3 C "even" ["self", "value"] (spWEven C ex0))
    (GN : Mk4 P w K mg base 4 C "number" ["self", "name", "n", "most"] (spWNum C ex0)) : Dk P w K mg base CX0 5 "write_rest" ["writer", "rest"] (spWRest K C) := by
  refine Dk.mk' D sc_wrest (fun _ _ _ _ _ _ us hl => match us, hl with | [_, _], _ => rfl) (fun vs H Q E h => ?_) (fun cdv A outer s H vs Q E hr h => ?_)
  · obtain ⟨p, d, rx, r, s, rfl, _⟩ := h
    rfl
  · obtain ⟨p, d, rx, r, s1, rfl, ⟨a, rfl, ha⟩, hok, S, hm, q⟩ := h
    obtain ⟨nr, gnr, hnr⟩ := T.noRest
    obtain ⟨od, god, hod⟩ := T.order
    have hod : ∀ H, SqT K H od (ordL.map V.int) := hod
    obtain ⟨dx, hp⟩ := S.ob
    have t1 : (decide (rK r = rK (List.replicate 16 (0 : Int)))) = decide (r = zeros) := by
      rw [zeros_eq]
      by_cases e : r = List.replicate 16 (0 : Int)
      · rw [decide_eq_true e, decide_eq_true (by rw [e])]
      · rw [decide_eq_false e, decide_eq_false (fun z => e (rK_inj z))]
    have dr := rK_depth r
    have dz := rK_depth (List.replicate 16 (0 : Int))
    refine ⟨_, pss_cons (ps_expr (pmeth GB hr (by decide) (pv 0) (pa_cons pe_str (pa_cons (pT call_int1 B.int (pa_cons (pe_cmpR (op_neK (room64 hr)) (pv 1) (pgR gnr) (nomark _)) pa_nil)) pa_nil))))
      (pss_one (ps_if (pt_cmpR (op_neK (room64 hr)) (pv 1) (pgR gnr) (nomark _))
        (pss_one (ps_for PassesOwn.never rfl (pi_enumT rfl B.enumerate (pa_cons (pgR god) pa_nil)) (pg_tup (by rfl) (pgs_cons (pg_name (i := 2) sc_wrest.nd rfl (.inl rfl)) (pgs_cons (pg_name (i := 3) sc_wrest.nd rfl (.inl rfl)) pgs_nil)))
          (pss_cons (ps_set (i := 4) sc_wrest.nd rfl (.inl rfl) (pe_ix ix_tup (pv 1) (pv 3) (fun _ _ => rfl)))
          (pss_cons (ps_expr (pmeth GN hr (by decide) (pv 0) (pa_cons (pe_sz (pv 2)) (pa_cons (pB call_abs B.abs (pa_cons (pv 4) pa_nil)) (pa_cons (pgI N.mostRest) pa_nil)))))
          (pss_one (ps_if (pt_cmpR op_ne (pv 4) pe_int (nomark _)) (pss_one (ps_expr (pmeth GE hr (by decide) (pv 0) (pa_cons (pT call_int1 B.int (pa_cons (pe_cmpR op_lt (pv 4) pe_int (nomark _)) pa_nil)) pa_nil)))) pss_nil)))))) pss_nil)), ?_⟩
    refine ⟨_, rfl, p, dx, _, rfl, hp, cf_meth ex0_no, _, rfl, _, _, kd_r ha, kd_r (hnr H), by omega, by omega, .inr ⟨_, rfl, ?_⟩⟩
    rw [if_pos rfl, t1]
    refine ⟨p, d, "rest", !decide (r = zeros), s1, rfl, S, by omega, fun H1 S1 b1 => ?_⟩
    have k1 := S.tk (K := K) b1
    refine ⟨_, rfl, _, _, kd_r (k1 _ _ ha), kd_r (hnr H1), by omega, by omega, _, rfl, ?_⟩
    rw [if_pos rfl, t1]
    by_cases e : r = zeros
    · rw [decide_eq_true e] at S1 ⊢
      refine iteF (q _ ?_ b1)
      unfold restE
      rw [if_pos e]
      exact S1
    · rw [decide_eq_false e] at S1 ⊢
      refine iteT ?_
      unfold restE at q
      rw [if_neg e] at q
      have q1 : ∀ H', CoS C ex0 p d H' (steps (step (some MM.rest) true s1) (goE MM.size order r)) → But p d H H' → Q .non H' := q
      have S1 : CoS C ex0 p d H1 (step (some MM.rest) true s1) := S1
      generalize es2 : step (some MM.rest) true s1 = s2 at q1 S1
      have hm2 : s2.m ≤ s1.m + 1 := by rw [← es2, step_m]; omega
      refine ⟨od, _, rfl, hod H1, for_enumT (xs := ordL.map V.int) (fun i σ H' => ∃ (z1 z2 z3 : Option V) (s3 : CS Str), σ = [some (.ref p), some (.ref a), z1, z2, z3] ∧ But p d H1 H' ∧ CoS C ex0 p d H' s3 ∧ s3.m ≤ s2.m + 30 * i ∧ steps s3 (goE MM.size (order.drop i) r) = steps s2 (goE MM.size order r))
        ⟨none, none, none, s2, rfl, But.refl _, S1, by omega, rfl⟩ (fun i σ H' _ => hod H') ?_ ?_⟩
      · rintro i x T σ H' hx ⟨z1, z2, z3, s3, rfl, b3, S3, hm3, e3⟩ hT
        have hi : i < 16 := by
          have := (List.getElem?_eq_some_iff.mp hx).1
          rw [List.length_map] at this
          exact this
        obtain ⟨pl, hpl, hdrop, hat⟩ := ord_at i hi
        rw [List.getElem?_map, hat] at hx
        obtain rfl : V.int (pl : Int) = x := Option.some.inj hx
        have sT : Same H' (upd H' T (.tup [.int (i : Nat), .int pl])) := Same.new hT
        have S4 := S3.same sT
        have tt : SqT K (upd H' T (.tup [.int (i : Nat), .int pl])) T [.int (i : Nat), .int pl] := .inl (.inl upd_same)
        have ha4 : SqT K (upd H' T (.tup [.int (i : Nat), .int pl])) a (r.map V.int) := sT.seqT (S1.tk (K := K) b3 _ _ (k1 _ _ ha))
        have b4 : But p d H1 (upd H' T (.tup [.int (i : Nat), .int pl])) := b3.trans (But.of_same sT)
        generalize upd H' T (.tup [.int (i : Nat), .int pl]) = H4 at S4 tt ha4 b4
        obtain ⟨dx4, hp4⟩ := S4.ob
        refine ⟨T, _, rfl, tt, rfl, _, _, rfl, _, _, rfl, rfl, ?_⟩
        have hrl : (r.map V.int)[pl]? = some (.int (r.getD pl 0)) := by
          have hlt : pl < r.length := by rw [hok.1]; exact hpl
          rw [List.getElem?_map, List.getD_eq_getElem?_getD, List.getElem?_eq_getElem hlt]
          rfl
        have hzb := hok.2 pl
        generalize hz : r.getD pl 0 = z at hrl hzb
        have e4 : goE MM.size (order.drop i) r = numE (MM.size i) 4000 (absI z) ++ ((if z = 0 then [] else [(none, decide (z < 0))]) ++ goE MM.size (order.drop (i + 1)) r) := by
          rw [hdrop]
          show snumE (MM.size i) (r.getD pl 0) ++ _ = _
          rw [hz, snumE_eq, List.append_assoc]
        rw [e4, steps_append, steps_append] at e3
        have hab : 0 ≤ absI z ∧ absI z ≤ 4000 := by unfold absI; split <;> omega
        have hl := numE_len (nm := MM.size i) hab.1 hab.2 (by decide)
        refine ⟨_, rfl, _, rfl, a, _, _, _, rfl, rfl, ha4, atI_nat hrl, ?_⟩
        refine ⟨_, rfl, p, dx4, _, rfl, hp4, cf_meth ex0_no, _, i, rfl, rfl, by omega, _, rfl, _, rfl, ?_⟩
        refine ⟨p, d, szOf i, absI z, 4000, s3, rfl, sz_len (by omega), hab.1, hab.2, by decide, S4, by omega, fun H5 S5 b5 => ?_⟩
        have hm5 : (steps s3 (numE (nmOf (szOf i)) 4000 (absI z))).m ≤ s3.m + 24 := by rw [steps_m]; have : (numE (nmOf (szOf i)) 4000 (absI z)).length ≤ 24 := hl; omega
        have e3' : steps (steps (steps s3 (numE (nmOf (szOf i)) 4000 (absI z))) (if z = 0 then [] else [(none, decide (z < 0))])) (goE MM.size (order.drop (i + 1)) r) = steps s2 (goE MM.size order r) := e3
        generalize steps s3 (numE (nmOf (szOf i)) 4000 (absI z)) = s5 at S5 hm5 e3'
        refine ⟨_, rfl, rfl, _, rfl, ?_⟩
        by_cases c : z = 0
        · subst c
          rw [if_pos rfl] at e3'
          exact iteF ⟨_, _, _, s5, rfl, b4.trans b5, S5, by omega, e3'⟩
        · rw [if_neg c] at e3'
          rw [decide_eq_false (fun h => c (V.int.inj h))]
          refine iteT ?_
          obtain ⟨dx5, hp5⟩ := S5.ob
          refine ⟨_, rfl, p, dx5, _, rfl, hp5, cf_meth ex0_no, _, rfl, _, _, rfl, rfl, .inr ⟨_, rfl, ?_⟩⟩
          exact ⟨p, d, decide (z < 0), s5, rfl, S5, fun H6 S6 b6 => ⟨_, _, _, step none (decide (z < 0)) s5, rfl, (b4.trans b5).trans b6, S6, by rw [step_m]; omega, e3'⟩⟩
      · rintro σ H' ⟨z1, z2, z3, s3, rfl, b3, S3, hm3, e3⟩
        refine q1 _ ?_ (b1.trans b3)
        have e3 : steps s3 [] = steps s2 (goE MM.size order r) := e3
        rw [← e3]
        exact S3
end
end K4
namespace K4
open PySem PySem.Spec PyProof.Rows L2
variable {P : Program} {w : World} {K : PySem.W.Frag} {mg : Str → Option Value} {base : Heap}
theorem inV_not {k : Str} {l : List Str} (h : ¬ k ∈ l) : inV (.str k) (l.map V.str) = false := by
  unfold inV
  rw [Bool.eq_false_iff]
  intro e
  obtain ⟨y, hy, e2⟩ := List.any_eq_true.mp e
  obtain ⟨z, hz, rfl⟩ := List.mem_map.mp hy
  have e3 : z = k := by simpa [eqV] using e2
  exact h (e3 ▸ hz)
theorem kindsL_len {reads : Nat} (h : reads ≤ 2) : ((kindsL reads).length : Int) = kinds reads := by
  rcases (show reads = 0 ∨ reads = 1 ∨ reads = 2 by omega) with rfl | rfl | rfl <;> rfl
theorem kind_at_b : ∀ r < 3, ∀ i < 4, (kindsL r)[i]? = some (bes i) ∧ ∀ m < i, (kindsL r)[m]? ≠ some (bes i) := by decide +kernel
theorem kind_at_a (r : Nat) (hr : r ≤ 2) (h1 : 1 ≤ r) : ((kindsL r)[4]? = some ("as" : Str) ∧ ∀ m < 4, (kindsL r)[m]? ≠ some ("as" : Str)) ∧ ((kindsL r)[5]? = some ("moved" : Str) ∧ ∀ m < 5, (kindsL r)[m]? ≠ some ("moved" : Str)) := by
  rcases (show r = 1 ∨ r = 2 by omega) with rfl | rfl
  · exact ⟨⟨by decide +kernel, by decide +kernel⟩, by decide +kernel, by decide +kernel⟩
  · exact ⟨⟨by decide +kernel, by decide +kernel⟩, by decide +kernel, by decide +kernel⟩
theorem kind_at_m : (kindsL 2)[6]? = some ("both" : Str) ∧ ∀ m < 6, (kindsL 2)[m]? ≠ some ("both" : Str) := ⟨by decide +kernel, by decide +kernel⟩
theorem kind_at {reads : Nat} {c : Ch} (hr : reads ≤ 2) (hc : chOk reads c) : ∃ j : Nat, (j : Int) = c.k ∧ (kindsL reads)[j]? = some (kS c) ∧ ∀ m, m < j → (kindsL reads)[m]? ≠ some (kS c) := by
  cases c with
  | bes i r => exact ⟨i, rfl, (kind_at_b reads (by omega) i hc.1).1, (kind_at_b reads (by omega) i hc.1).2⟩
  | as w => exact ⟨4, rfl, (kind_at_a reads hr hc.1).1.1, (kind_at_a reads hr hc.1).1.2⟩
  | mov w v r => exact ⟨5, rfl, (kind_at_a reads hr hc.1).2.1, (kind_at_a reads hr hc.1).2.2⟩
  | both v u r =>
    have h2 : reads = 2 := by have := hc.1; omega
    subst h2
    exact ⟨6, rfl, kind_at_m.1, kind_at_m.2⟩
theorem ck_le {reads : Nat} {c : Ch} (hr : reads ≤ 2) (hc : chOk reads c) : 0 ≤ c.k ∧ c.k ≤ kinds reads - 1 := by
  obtain ⟨j, h1, h2, _⟩ := kind_at hr hc
  have h3 := (List.getElem?_eq_some_iff.mp h2).1
  have h4 := kindsL_len hr
  omega
section
variable {C : Addr}
def spWCh (K : PySem.W.Frag) (C : Addr) : Sp := fun vs H Q _ => ∃ (p d : Addr) (x gx : V) (c : Ch) (g : Vec) (reads : Nat) (s : CS Str), vs = [.ref p, x, gx, .int reads] ∧ reads ≤ 2 ∧ IsCh K H x c ∧ chOk reads c ∧ IsV K H gx g ∧ CoS C ex0 p d H s ∧ s.m ≤ 6000 ∧
  ∀ H', CoS C ex0 p d H' (steps s (choiceE MM reads g c)) → But p d H H' → Q .non H'
theorem sc_wch : FnScope ["writer", "choice", "guess", "reads", "kind", "parts", "kinds"] ["writer", "choice", "guess", "reads"] (defScope s_write_choice) := ⟨rfl, rfl, rfl, by decide +kernel, rfl, by decide +kernel, by decide +kernel⟩
theorem vecE_len {g v : Vec} : (vecE MM g v).length ≤ 48 := by
  have h1 := numE_len (nm := MM.x) (mod65 (v.1 - g.1)).1 (mod65 (v.1 - g.1)).2 (by decide)
  have h2 := numE_len (nm := MM.y) (mod65 (v.2 - g.2)).1 (mod65 (v.2 - g.2)).2 (by decide)
  unfold vecE
  rw [List.length_append, List.length_append, List.length_nil]
  omega
theorem d_wch (B : Bt mg) (D : Df K mg "write_choice" s_write_choice) (GK : Dk P w K mg base CX0 1 "kinds_for" ["reads"] (spKinds K)) (GN : Mk4 P w K mg base 4 C "number" ["self", "name", "n", "most"] (spWNum C ex0)) (GB : Mk4 P w K mg base 3 C "bit" ["self", "name", "value"] (spWBit C ex0))
    (GV : Dk P w K mg base CX0 5 "write_vector" ["writer", "vector", "guess"] (spWVec K C)) (GR : Dk P w K mg base CX0 5 "write_rest" ["writer", "rest"] (spWRest K C)) : Dk P w K mg base CX0 6 "write_choice" ["writer", "choice", "guess", "reads"] (spWCh K C) := by
  refine Dk.mk' D sc_wch (fun _ _ _ _ _ _ us hl => match us, hl with | [_, _, _, _], _ => rfl) (fun vs H Q E h => ?_) (fun cdv A outer s H vs Q E hr h => ?_)
  · obtain ⟨p, d, x, gx, c, g, reads, s, rfl, _⟩ := h
    rfl
  · obtain ⟨p, d, x, gx, c, g, reads, s1, rfl, h2, ⟨a, xs, rfl, hs, hx⟩, hc, hg, S, hm, q⟩ := h
    obtain ⟨ps, rfl, hl1, hl3, _⟩ := hx.split hc
    refine ⟨_, pss_cons (ps_asg (pv 1) (pg_star1 rfl (pgs_cons (pg_name (i := 4) sc_wch.nd rfl (.inl rfl)) (pgs_starred (pg_name (i := 5) sc_wch.nd rfl (.inl rfl)) pgs_nil))))
      (pss_cons (ps_set (i := 6) sc_wch.nd rfl (.inl rfl) (pcall GK hr (by decide) rfl (pa_cons (pv 3) pa_nil)))
      (pss_cons (ps_expr (pmeth GN hr (by decide) (pv 0) (pa_cons pe_str (pa_cons (pe_tidx (pv 6) (pa_cons (pv 4) pa_nil)) (pa_cons (pe_op op_sub (pB call_len B.len (pa_cons (pv 6) pa_nil)) pe_int) pa_nil)))))
      (pss_cons (ps_if (PW.pt (pw_and (pt_cmpR op_in_seq (pv 4) (pe_tup (pa_cons pe_str (pa_cons pe_str pa_nil))) (by rfl)) (pw_and1 (pt_cmpR op_eq (pv 3) pe_int (nomark _))))) (pss_one (ps_expr (pmeth GB hr (by decide) (pv 0) (pa_cons pe_str (pa_cons (pe_ix ix_list (pv 5) pe_int (fun _ _ => rfl)) pa_nil))))) pss_nil)
      (pss_cons (ps_if (pt_cmpR op_eq (pv 4) pe_str (nomark _)) (pss_one (ps_expr (pcall GV hr (by decide) rfl (pa_cons (pv 0) (pa_cons (pe_ix ix_list (pv 5) pe_int (fun _ _ => rfl)) (pa_cons (pv 2) pa_nil))))))
          (pss_one (ps_if (pt_cmpR op_eq (pv 4) pe_str (nomark _)) (pss_cons (ps_expr (pcall GV hr (by decide) rfl (pa_cons (pv 0) (pa_cons (pe_ix ix_list (pv 5) pe_int (fun _ _ => rfl)) (pa_cons (pv 2) pa_nil)))))
            (pss_one (ps_expr (pcall GV hr (by decide) rfl (pa_cons (pv 0) (pa_cons (pe_ix ix_list (pv 5) pe_int (fun _ _ => rfl)) (pa_cons (pe_ix ix_list (pv 5) pe_int (fun _ _ => rfl)) pa_nil))))))) pss_nil)))
      (pss_one (ps_if (pt_cmpR op_ne (pv 4) pe_str (nomark _)) (pss_one (ps_expr (pcall GR hr (by decide) rfl (pa_cons (pv 0) (pa_cons (pe_ix ix_list (pv 5) (pe_un un_neg pe_int) (fun _ _ => rfl)) pa_nil))))) pss_nil)))))), ?_⟩
    refine ⟨_, rfl, a, _, ps, rfl, hs, fun l hl => ?_⟩
    have s0 : Same H (upd H l (.lst ps)) := Same.new hl
    have hl5 : upd H l (.lst ps) l = some (.lst ps) := upd_same
    generalize upd H l (.lst ps) = H0 at s0 hl5
    refine ⟨_, _, rfl, _, _, rfl, ⟨rfl, ?_⟩⟩
    refine ⟨_, rfl, reads, rfl, h2, fun k H2 sk hk nk => ?_⟩
    have s2 : Same H H2 := s0.trans sk
    have S2 := S.same s2
    have hl2 : H2 l = some (.lst ps) := sk _ _ hl5
    obtain ⟨dx, hp⟩ := S2.ob
    obtain ⟨j, hj1, hj2, hj3⟩ := kind_at h2 hc
    have hkl := kindsL_len h2
    have hck := ck_le h2 hc
    have hkk : kinds reads ≤ 7 := (kinds_ge reads).2
    refine ⟨_, rfl, p, dx, _, rfl, hp, cf_meth ex0_no, _, rfl, ⟨k, rfl, nk⟩, _, rfl, k, kindsL reads, kS c, j, rfl, rfl, hk, hj2, hj3, _, rfl, _, _, rfl, .inr ⟨_, hk, rfl⟩, _, _, rfl, rfl, ?_⟩
    rw [List.length_map, hkl, hj1]
    refine ⟨p, d, "kind", c.k, kinds reads - 1, s1, rfl, by decide +kernel, hck.1, hck.2, by omega, S2, by omega, fun H3 S3 b3 => ?_⟩
    have hl := numE_len (nm := MM.kind) hck.1 hck.2 (by omega)
    have k3 := S2.tk (K := K) b3
    have hl3' : H3 l = some (.lst ps) := by
      obtain ⟨⟨⟨dx2, hp2⟩, _⟩, kvs, hd2, _⟩ := S2
      exact b3 _ _ hl2 (ne_of hl2 hp2 (fun z => nomatch z)) (ne_of hl2 hd2 (fun z => nomatch z))
    have b03 : But p d H H3 := (But.of_same s2).trans b3
    have hm3 : (steps s1 (numE MM.kind (kinds reads - 1) c.k)).m ≤ s1.m + 24 := by rw [steps_m]; omega
    have q1 : ∀ H', CoS C ex0 p d H' (steps (steps s1 (numE MM.kind (kinds reads - 1) c.k)) (tailE MM reads g c)) → But p d H H' → Q .non H' := fun H' S' b' => q H' (by unfold choiceE; rw [steps_append]; exact S') b'
    have S3 : CoS C ex0 p d H3 (steps s1 (numE MM.kind (kinds reads - 1) c.k)) := S3
    have hx3 : ChX K H3 (.str (kS c) :: ps) c := (hx.tk s2.tk).tk k3
    have hg3 : IsV K H3 gx g := (hg.tk s2.tk).tk k3
    generalize steps s1 (numE MM.kind (kinds reads - 1) c.k) = s3 at S3 q1 hm3
    clear hp dx
    -- behind 'which'
    refine ⟨_, rfl, by show 2 ≤ sizeLine; decide, fun t ht => ?_⟩
    have sT : Same H3 (upd H3 t (.tup [.str "as", .str "moved"])) := Same.new ht
    have tt : SqT K (upd H3 t (.tup [.str "as", .str "moved"])) t ((["as", "moved"] : List Str).map V.str) := .inl (.inl upd_same)
    have S4 := S3.same sT
    have hl4 : upd H3 t (.tup [.str "as", .str "moved"]) l = some (.lst ps) := sT _ _ hl3'
    have hx4 := hx3.tk (K := K) sT.tk
    have hg4 := hg3.tk (K := K) sT.tk
    have b04 := b03.trans (But.of_same sT)
    generalize upd H3 t (.tup [.str "as", .str "moved"]) = H4 at tt S4 hl4 hx4 hg4 b04
    obtain ⟨dx, hp4⟩ := S4.ob
    have keep : ∀ {H5 H6 : Hp} {s5 : CS Str}, CoS C ex0 p d H5 s5 → But p d H5 H6 → H5 l = some (.lst ps) → H6 l = some (.lst ps) := fun S5 b5 h5 => by
      obtain ⟨⟨⟨dx2, hp2⟩, _⟩, kvs, hd2, _⟩ := S5
      exact b5 _ _ h5 (ne_of h5 hp2 (fun z => nomatch z)) (ne_of h5 hd2 (fun z => nomatch z))
    refine ⟨t, _, rfl, .inr tt, rfl, rfl, ?_⟩
    rw [if_neg Bool.false_ne_true]
    cases c with
    | bes i r =>
      obtain ⟨y, e, hy⟩ := hx4
      obtain rfl : ps = [y] := (List.cons.inj e).2
      have nin : ¬ bes i ∈ (["as", "moved"] : List Str) := by
        have := bes_not i
        simp [this.1, this.2.1]
      have ei : inV (.str (kS (.bes i r))) (((["as", "moved"] : List Str)).map V.str) = false := inV_not nin
      rw [ei]
      refine ⟨_, rfl, iteF ?_⟩
      refine ⟨_, rfl, rfl, _, rfl, ite2 (fun cc => absurd (V.str.inj (of_decide_eq_true cc)) (bes_not i).2.1) (fun _ => ?_)⟩
      refine ⟨_, rfl, rfl, _, rfl, ite2 (fun cc => absurd (V.str.inj (of_decide_eq_true cc)) (bes_not i).2.2) (fun _ => ?_)⟩
      refine ⟨_, rfl, rfl, _, rfl, ?_⟩
      rw [decide_eq_false (show ¬ V.str (kS (.bes i r)) = V.str "as" from fun h => (bes_not i).1 (V.str.inj h))]
      refine iteT ?_
      refine ⟨_, rfl, _, rfl, 1, rfl, l, _, -1, _, rfl, rfl, .inl (.inl hl4), atI_last [] y, ?_⟩
      exact ⟨p, d, y, r, s3, rfl, hy, hc.2, S4, by omega, fun H5 S5 b5 => q1 H5 (by show CoS C ex0 p d H5 (steps s3 (restE MM r ++ [])); rw [List.append_nil]; exact S5) (b04.trans b5)⟩
    | as w =>
      have e : V.str (kS (.as w)) :: ps = [.str "as", .int (b2i w)] := hx4
      obtain rfl : ps = [.int (b2i w)] := (List.cons.inj e).2
      rw [inV_str (show kS (.as w) ∈ (["as", "moved"] : List Str) by show ("as" : Str) ∈ _; decide +kernel)]
      have fin : ∀ (H5 : Hp), CoS C ex0 p d H5 (steps s3 (whichE MM reads w)) → But p d H H5 → Q .non H5 := fun H5 S5 b5 => q1 H5 (by show CoS C ex0 p d H5 (steps s3 (whichE MM reads w ++ [])); rw [List.append_nil]; exact S5) b5
      refine ⟨_, rfl, iteT ?_⟩
      refine ⟨_, rfl, rfl, _, rfl, ?_⟩
      by_cases c2 : reads = 2
      · rw [decide_eq_true (show V.int (reads : Int) = V.int 2 by rw [c2]; rfl)]
        refine iteT ?_
        refine ⟨_, rfl, p, dx, _, rfl, hp4, cf_meth ex0_no, _, rfl, l, _, 0, _, rfl, rfl, .inl (.inl hl4), atI_nat (j := 0) rfl, ?_⟩
        refine ⟨p, d, "which", w, s3, rfl, S4, by omega, fun H5 S5 b5 => ?_⟩
        refine ⟨_, rfl, rfl, _, rfl, ite2 (fun cc => absurd (V.str.inj (of_decide_eq_true cc)) (by show ¬ ("as" : Str) = "moved"; decide +kernel)) (fun _ => ?_)⟩
        refine ⟨_, rfl, rfl, _, rfl, ite2 (fun cc => absurd (V.str.inj (of_decide_eq_true cc)) (by show ¬ ("as" : Str) = "both"; decide +kernel)) (fun _ => ?_)⟩
        refine ⟨_, rfl, rfl, _, rfl, ?_⟩
        rw [decide_eq_true (show V.str (kS (.as w)) = V.str "as" from rfl)]
        exact iteF (fin H5 (by unfold whichE; rw [if_pos c2]; exact S5) (b04.trans b5))
      · rw [decide_eq_false (fun h => c2 (by have := V.int.inj h; omega))]
        refine iteF ?_
        refine ⟨_, rfl, rfl, _, rfl, ite2 (fun cc => absurd (V.str.inj (of_decide_eq_true cc)) (by show ¬ ("as" : Str) = "moved"; decide +kernel)) (fun _ => ?_)⟩
        refine ⟨_, rfl, rfl, _, rfl, ite2 (fun cc => absurd (V.str.inj (of_decide_eq_true cc)) (by show ¬ ("as" : Str) = "both"; decide +kernel)) (fun _ => ?_)⟩
        refine ⟨_, rfl, rfl, _, rfl, ?_⟩
        rw [decide_eq_true (show V.str (kS (.as w)) = V.str "as" from rfl)]
        exact iteF (fin H4 (by unfold whichE; rw [if_neg c2]; exact S4) b04)
    | mov w v r =>
      obtain ⟨xv, y, e, hv, hy⟩ := hx4
      obtain rfl : ps = [.int (b2i w), xv, y] := (List.cons.inj e).2
      rw [inV_str (show kS (.mov w v r) ∈ (["as", "moved"] : List Str) by show ("moved" : Str) ∈ _; decide +kernel)]
      refine ⟨_, rfl, iteT ?_⟩
      refine ⟨_, rfl, rfl, _, rfl, ?_⟩
      by_cases c2 : reads = 2
      · rw [decide_eq_true (show V.int (reads : Int) = V.int 2 by rw [c2]; rfl)]
        refine iteT ?_
        refine ⟨_, rfl, p, dx, _, rfl, hp4, cf_meth ex0_no, _, rfl, l, _, 0, _, rfl, rfl, .inl (.inl hl4), atI_nat (j := 0) rfl, ?_⟩
        refine ⟨p, d, "which", w, s3, rfl, S4, by omega, fun H5 S5 b5 => ?_⟩
        have k5 := S4.tk (K := K) b5
        replace S5 : CoS C ex0 p d H5 (steps s3 (whichE MM reads w)) := by unfold whichE; rw [if_pos c2]; exact S5
        have hl5 := keep S4 b5 hl4
        have hv5 := hv.tk k5
        have hy5 := hy.tk k5
        have hg5 := hg4.tk k5
        refine ⟨_, rfl, rfl, _, rfl, ite2 (fun _ => ?_) (fun cc => absurd (decide_eq_true rfl) cc)⟩
        have hmw : (steps s3 (whichE MM reads w)).m ≤ s3.m + 1 := by rw [steps_m]; unfold whichE; split <;> simp
        refine ⟨_, rfl, _, rfl, l, _, 1, _, rfl, rfl, .inl (.inl hl5), atI_nat (j := 1) rfl, _, rfl, p, d, xv, gx, v, g, _, rfl, hv5, hg5, S5, by omega, fun H6 S6 b6 => ?_⟩
        have hl6 := keep S5 b6 hl5
        have k6 := S5.tk (K := K) b6
        refine ⟨_, rfl, rfl, _, rfl, ?_⟩
        rw [decide_eq_false (fun h => absurd (V.str.inj h) (by show ¬ ("moved" : Str) = "as"; decide +kernel))]
        refine iteT ?_
        refine ⟨_, rfl, _, rfl, 1, rfl, l, _, -1, _, rfl, rfl, .inl (.inl hl6), atI_last [.int (b2i w), xv] y, ?_⟩
        have hvl := vecE_len (g := g) (v := v)
        refine ⟨p, d, y, r, _, rfl, hy5.tk k6, hc.2.2.2, S6, by rw [steps_m]; omega, fun H7 S7 b7 => q1 H7 ?_ (((b04.trans b5).trans b6).trans b7)⟩
        show CoS C ex0 p d H7 (steps s3 (whichE MM reads w ++ (vecE MM g v ++ (restE MM r ++ []))))
        rw [List.append_nil, steps_append, steps_append]
        exact S7
      · rw [decide_eq_false (fun h => c2 (by have := V.int.inj h; omega))]
        refine iteF ?_
        have S5 : CoS C ex0 p d H4 (steps s3 (whichE MM reads w)) := by unfold whichE; rw [if_neg c2]; exact S4
        have hl5 := hl4
        have b5 : But p d H4 H4 := But.refl _
        have hv5 := hv
        have hy5 := hy
        have hg5 := hg4
        refine ⟨_, rfl, rfl, _, rfl, ite2 (fun _ => ?_) (fun cc => absurd (decide_eq_true rfl) cc)⟩
        have hmw : (steps s3 (whichE MM reads w)).m ≤ s3.m + 1 := by rw [steps_m]; unfold whichE; split <;> simp
        refine ⟨_, rfl, _, rfl, l, _, 1, _, rfl, rfl, .inl (.inl hl5), atI_nat (j := 1) rfl, _, rfl, p, d, xv, gx, v, g, _, rfl, hv5, hg5, S5, by omega, fun H6 S6 b6 => ?_⟩
        have hl6 := keep S5 b6 hl5
        have k6 := S5.tk (K := K) b6
        refine ⟨_, rfl, rfl, _, rfl, ?_⟩
        rw [decide_eq_false (fun h => absurd (V.str.inj h) (by show ¬ ("moved" : Str) = "as"; decide +kernel))]
        refine iteT ?_
        refine ⟨_, rfl, _, rfl, 1, rfl, l, _, -1, _, rfl, rfl, .inl (.inl hl6), atI_last [.int (b2i w), xv] y, ?_⟩
        have hvl := vecE_len (g := g) (v := v)
        refine ⟨p, d, y, r, _, rfl, hy5.tk k6, hc.2.2.2, S6, by rw [steps_m]; omega, fun H7 S7 b7 => q1 H7 ?_ (((b04.trans b5).trans b6).trans b7)⟩
        show CoS C ex0 p d H7 (steps s3 (whichE MM reads w ++ (vecE MM g v ++ (restE MM r ++ []))))
        rw [List.append_nil, steps_append, steps_append]
        exact S7
    | both v u r =>
      obtain ⟨xv, xu, y, e, hv, hu, hy⟩ := hx4
      obtain rfl : ps = [xv, xu, y] := (List.cons.inj e).2
      rw [inV_not (show ¬ kS (.both v u r) ∈ (["as", "moved"] : List Str) by show ¬ ("both" : Str) ∈ _; decide +kernel)]
      refine ⟨_, rfl, iteF ?_⟩
      refine ⟨_, rfl, rfl, _, rfl, ite2 (fun cc => absurd (V.str.inj (of_decide_eq_true cc)) (by show ¬ ("both" : Str) = "moved"; decide +kernel)) (fun _ => ?_)⟩
      refine ⟨_, rfl, rfl, _, rfl, ite2 (fun _ => ?_) (fun cc => absurd (decide_eq_true rfl) cc)⟩
      have l1 := vecE_len (g := g) (v := v)
      have l2 := vecE_len (g := v) (v := u)
      refine ⟨_, rfl, _, rfl, l, _, 0, _, rfl, rfl, .inl (.inl hl4), atI_nat (j := 0) rfl, _, rfl, p, d, xv, gx, v, g, s3, rfl, hv, hg4, S4, by omega, fun H5 S5 b5 => ?_⟩
      have k5 := S4.tk (K := K) b5
      have hl5 := keep S4 b5 hl4
      refine ⟨_, rfl, _, rfl, l, _, 1, _, rfl, rfl, .inl (.inl hl5), atI_nat (j := 1) rfl, _, rfl, l, _, 0, _, rfl, rfl, .inl (.inl hl5), atI_nat (j := 0) rfl, p, d, xu, xv, u, v, _, rfl, hu.tk k5, hv.tk k5, S5, by rw [steps_m]; omega, fun H6 S6 b6 => ?_⟩
      have hl6 := keep S5 b6 hl5
      have k6 := S5.tk (K := K) b6
      refine ⟨_, rfl, rfl, _, rfl, ?_⟩
      rw [decide_eq_false (fun h => absurd (V.str.inj h) (by show ¬ ("both" : Str) = "as"; decide +kernel))]
      refine iteT ?_
      refine ⟨_, rfl, _, rfl, 1, rfl, l, _, -1, _, rfl, rfl, .inl (.inl hl6), atI_last [xv, xu] y, ?_⟩
      refine ⟨p, d, y, r, _, rfl, (hy.tk k5).tk k6, hc.2.2.2, S6, by rw [steps_m, steps_m]; omega, fun H7 S7 b7 => q1 H7 ?_ (((b04.trans b5).trans b6).trans b7)⟩
      show CoS C ex0 p d H7 (steps s3 (vecE MM g v ++ (vecE MM v u ++ (restE MM r ++ []))))
      rw [List.append_nil, steps_append, steps_append]
      exact S7
end
end K4
namespace K4
open PySem PySem.Spec PyProof.Rows L2
variable {P : Program} {w : World} {K : PySem.W.Frag} {mg : Str → Option Value} {base : Heap}
theorem same_but {p d : Addr} {H H1 H2 : Hp} (s : Same H H1) (b : But p d H1 H2) (hp : H p = none) (hd : H d = none) : Same H H2 := fun a o e => b a o (s a o e) (ne_of_none e hp) (ne_of_none e hd)
theorem choiceE_len {reads : Nat} {g : Vec} {c : Ch} (hc : chOk reads c) : (choiceE MM reads g c).length ≤ 422 := (choice_codec MM reads g).len (choice_len g) hc
section
variable {C : Addr}
def spLetOf (K : PySem.W.Frag) : Sp := fun vs H Q _ => ∃ (x : V) (cs : List Ch) (m reads : Nat), vs = [x, .int ((4 * m : Nat) : Int), .int 4, .int reads] ∧ 1 ≤ m ∧ m ≤ 2 ∧ reads ≤ 2 ∧ IsCt K H x cs ∧ allOk reads m cs ∧
  ∀ t H', H t = none → Same H H' → H' t = some (.tup ((ownC MM reads cs).map V.int)) → Q (.ref t) H'
theorem sc_let : FnScope ["choices", "wide", "tall", "reads", "writer", "vectors", "k", "choice", "guess"] ["choices", "wide", "tall", "reads"] (defScope s_letters_of) := ⟨rfl, rfl, rfl, by decide +kernel, rfl, by decide +kernel, by decide +kernel⟩
theorem d_let (B : Bt mg) (N : Ct mg) (D : Df K mg "letters_of" s_letters_of) (gW : mg "Writer" = some (.ref C)) {fi : Addr} {fdi : FuncData} (M : Mk K C fi) (FI : FnOk P w K mg base CX0 1 fi fdi ["self"] (spInit C) ∧ L2.Binds K fdi ["self"] [])
    (GS : Dk P w K mg base CX0 3 "need_size" ["wide", "tall"] spNeedSize) (GW : Dk P w K mg base CX0 1 "is_whole" ["thing", "least", "most"] spWhole) (GA : Dk P w K mg base CX0 5 "are_choices" ["thing", "many", "reads"] (spAre K))
    (GG : Dk P w K mg base CX0 2 "guessed_vector" ["vectors", "k", "across"] (spGuess K)) (GC : Dk P w K mg base CX0 6 "write_choice" ["writer", "choice", "guess", "reads"] (spWCh K C)) (GF : Dk P w K mg base CX0 1 "first_vector" ["choice", "guess"] (spFirst K))
    (GL : Mk4 P w K mg base 2 C "letters" ["self"] (spWLetters C ex0)) : Dk P w K mg base CX0 7 "letters_of" ["choices", "wide", "tall", "reads"] (spLetOf K) := by
  refine Dk.mk' D sc_let (fun _ _ _ _ _ _ us hl => match us, hl with | [_, _, _, _], _ => rfl) (fun vs H Q E h => ?_) (fun cdv A outer s H vs Q E hr h => ?_)
  · obtain ⟨x, cs, m, reads, rfl, _⟩ := h
    rfl
  · obtain ⟨x, cs, m, reads, rfl, hm1, hm2, h2, hx, hc, q⟩ := h
    refine ⟨_, pss_cons (ps_expr (pcall GS hr (by decide) rfl (pa_cons (pv 1) (pa_cons (pv 2) pa_nil))))
      (pss_cons (ps_if (PW.pt (pw_or (pt_not (pt_val (pcall GW hr (by decide) rfl (pa_cons (pv 3) (pa_cons pe_int (pa_cons (pgI N.mostReads) pa_nil)))))) (pw_or1 (pt_not (pt_val (pcall GA hr (by decide) rfl (pa_cons (pv 0) (pa_cons (pe_op op_fdiv (pe_op op_mul (pv 1) (pv 2)) pe_int) (pa_cons (pv 3) pa_nil))))))))) pss_never pss_nil)
      (pss_cons (ps_par (i := 4) (j := 5) (by rfl) sc_let.nd rfl rfl (by decide) rfl rfl (pa_cons (pe_make0 M FI.1 (hr.mono (by decide)) rfl gW FI.2 .nil pass0) (pa_cons (pe_lst pa_nil) pa_nil)) (by rfl))
      (pss_cons (ps_for PassesOwn.never rfl (pi_enumT rfl B.enumerate (pa_cons (pv 0) pa_nil)) (pg_tup (by rfl) (pgs_cons (pg_name (i := 6) sc_let.nd rfl (.inl rfl)) (pgs_cons (pg_name (i := 7) sc_let.nd rfl (.inl rfl)) pgs_nil)))
        (pss_cons (ps_set (i := 8) sc_let.nd rfl (.inl rfl) (pcall GG hr (by decide) rfl (pa_cons (pv 5) (pa_cons (pv 6) (pa_cons (pe_op op_fdiv (pv 1) pe_int) pa_nil)))))
        (pss_cons (ps_expr (pcall GC hr (by decide) rfl (pa_cons (pv 4) (pa_cons (pv 7) (pa_cons (pv 8) (pa_cons (pv 3) pa_nil))))))
        (pss_one (ps_expr (pe_bm PySem.F.plainAttrs_list PySem.F.slot_list_append PySem.F.type_list_append mt_append (pv 5) (pa_cons (pcall GF hr (by decide) rfl (pa_cons (pv 7) (pa_cons (pv 8) pa_nil))) pa_nil)))))))
      (pss_one (ps_ret (pmeth0 GL hr (by decide) (pv 4))))))), ?_⟩
    refine ⟨_, rfl, _, rfl, _, _, rfl, by omega, by omega, ?_⟩
    refine ⟨_, rfl, _, 0, 2, rfl, by omega, by omega, _, rfl, iteF ?_⟩
    refine ⟨_, rfl, _, rfl, _, rfl, _, _, rfl, rfl, .inl ⟨by omega, by omega⟩, _, _, rfl, rfl, ⟨by decide, by decide⟩, _, rfl, x, cs, m, reads, ?_, h2, hx, hc, by omega, fun H1 s1 => ⟨_, rfl, iteF ?_⟩⟩
    · show [x, V.int (((4 * m : Nat) : Int) * 4 / 16), V.int reads] = [x, .int m, .int reads]
      rw [show (((4 * m : Nat) : Int) * 4 / 16) = (m : Int) by omega]
    refine fun p dx hp hdx hne => ⟨p, dx, rfl, upd_same, fun d H2 hd S2 b2 => ⟨rfl, ?_⟩⟩
    have npd : p ≠ d := fun e => by rw [← e, upd_same] at hd; cases hd
    have hd1 : H1 d = none := by
      rw [upd_ne npd.symm] at hd
      by_cases e : d = dx
      · rw [e]; exact hdx
      · rw [upd_ne e] at hd; exact hd
    have hp0 : H p = none := by
      cases e : H p with
      | none => rfl
      | some o => rw [s1 _ _ e] at hp; cases hp
    have hd0 : H d = none := by
      cases e : H d with
      | none => rfl
      | some o => rw [s1 _ _ e] at hd1; cases hd1
    have s2 : Same H H2 := same_but ((s1.trans (Same.new hdx)).more hp0) b2 hp0 hd0
    refine ⟨by show 0 ≤ sizeLine; decide, fun l hl => ⟨_, _, rfl, ?_⟩⟩
    have S3 := S2.same (Same.new (o := .lst []) hl)
    have hl0 : H l = none := by
      cases e : H l with
      | none => rfl
      | some o => rw [s2 _ _ e] at hl; cases hl
    obtain ⟨a, xs, rfl, hs, hcs⟩ := hx
    have hlen : xs.length = m := hcs.len.trans hc.1
    refine ⟨_, rfl, a, xs, rfl, (s2.more hl0).seqT hs, for_enumT (xs := xs) (fun i σ H' => ∃ (z1 z2 z3 : Option V) (si : CS Str) (li : Option Vec) (ys : List V), σ = [some (.ref a), some (.int ((4 * m : Nat) : Int)), some (.int 4), some (.int reads), some (.ref p), some (.ref l), z1, z2, z3] ∧ Same H H' ∧ CoS C ex0 p d H' si ∧ H' l = some (.lst ys) ∧
        ((i < m → VsAt K H' ys i li) ∧ si.m ≤ 422 * i ∧ steps si (allE MM reads li (cs.drop i)) = lastS MM reads cs)) ⟨none, none, none, s0, none, [], rfl, s2.more hl0, S3, upd_same, fun _ => .inl ⟨rfl, rfl, rfl⟩, Nat.zero_le _, rfl⟩ ?_ ?_ ?_⟩
    · rintro i σ H' ⟨z1, z2, z3, si, li, ys, rfl, sm, _⟩
      exact sm.seqT hs
    · rintro i y T σ H' hy ⟨z1, z2, z3, si, li, ys, rfl, sm, Si, hl', hv, hmi, he⟩ hT
      have hi : i < m := by rw [← hlen]; exact (List.getElem?_eq_some_iff.mp hy).1
      obtain ⟨c, hc1, hc2⟩ := hcs.at hy
      have hcok := hc.2 c (List.mem_of_getElem? hc1)
      have hdrop : cs.drop i = c :: cs.drop (i + 1) := by
        obtain ⟨hlt, e⟩ := List.getElem?_eq_some_iff.mp hc1
        rw [List.drop_eq_getElem_cons hlt, e]
      have sT : Same H' (upd H' T (.tup [.int (i : Nat), y])) := Same.new hT
      have tt : SqT K (upd H' T (.tup [.int (i : Nat), y])) T [.int (i : Nat), y] := .inl (.inl upd_same)
      have S4 := Si.same sT
      have hl4 : upd H' T (.tup [.int (i : Nat), y]) l = some (.lst ys) := sT _ _ hl'
      have sm4 := sm.trans sT
      have hv4 : VsAt K (upd H' T (.tup [.int (i : Nat), y])) ys i li := by
        rcases hv hi with h | ⟨h1, z, h3, h4⟩
        · exact .inl h
        · exact .inr ⟨h1, z, h3, IsOV.tk sT.tk h4⟩
      generalize upd H' T (.tup [.int (i : Nat), y]) = H4 at tt S4 hl4 sm4 hv4
      refine ⟨T, _, rfl, tt, rfl, _, _, rfl, _, _, rfl, rfl, ?_⟩
      refine ⟨_, rfl, _, rfl, _, rfl, _, _, rfl, rfl, ⟨by decide, by decide⟩, l, i, m, li, ys, ?_, hi, hm2, hl4, hv4, fun g H5 s5 hg => ?_⟩
      · show [V.ref l, V.int (i : Nat), V.int (((4 * m : Nat) : Int) / 4)] = [.ref l, .int i, .int m]
        rw [show (((4 * m : Nat) : Int) / 4) = (m : Int) by omega]
      have S5 := S4.same s5
      have sm5 := sm4.trans s5
      refine ⟨_, rfl, _, rfl, _, rfl, _, rfl, p, d, y, g, c, gs li, reads, si, rfl, h2, IsCh.tk sm5.tk hc2, hcok, hg, S5, by omega, fun H6 S6 b6 => ?_⟩
      have sm6 : Same H H6 := same_but sm5 b6 hp0 hd0
      have hl6 : H6 l = some (.lst ys) := by
        obtain ⟨⟨⟨dx2, hp2⟩, _⟩, kvs, hd2, _⟩ := S5
        have h5 := s5 _ _ hl4
        exact b6 _ _ h5 (ne_of h5 hp2 (fun z => nomatch z)) (ne_of h5 hd2 (fun z => nomatch z))
      have hg6 : IsV K H6 g (gs li) := hg.tk (S5.tk b6)
      have hlc := choiceE_len (g := gs li) hcok
      refine ⟨_, rfl, .inl ⟨rfl, _, .inl (.inl hl6)⟩, _, rfl, _, rfl, y, g, c, gs li, rfl, IsCh.tk sm6.tk hc2, hg6, fun v H7 s7 hv7 => ?_⟩
      have hl7 := s7 _ _ hl6
      have hys : ys.length < sizeLine := by
        rcases hv hi with ⟨_, h, _⟩ | ⟨_, z, h, _⟩
        · rw [h]; show 0 < sizeLine; decide
        · rw [h]; show 1 < sizeLine; decide
      refine ⟨l, ys, v, rfl, rfl, hl7, hys, _, _, _, steps si (choiceE MM reads (gs li) c), fv c (gs li), ys ++ [v], rfl, (sm6.trans s7).more hl0, ?_, upd_same, ?_, by rw [steps_m]; omega, ?_⟩
      · obtain ⟨⟨⟨dx2, hp2⟩, ok2⟩, kvs, hd2, r2⟩ := S6.same s7
        exact ⟨⟨⟨dx2, by rw [upd_ne (ne_of hp2 hl7 (fun z => nomatch z))]; exact hp2⟩, ok2⟩, kvs, by rw [upd_ne (ne_of hd2 hl7 (fun z => nomatch z))]; exact hd2, r2⟩
      · intro hi2
        have hi0 : i = 0 := by omega
        subst hi0
        obtain ⟨_, rfl, _⟩ : 0 = 0 ∧ ys = [] ∧ li = none := by
          rcases hv hi with h | ⟨h, _⟩
          · exact h
          · omega
        exact .inr ⟨rfl, v, rfl, IsOV.tk (TK.upd (by rw [hl7]; trivial)) hv7⟩
      · rw [← he, hdrop]
        show _ = steps si (choiceE MM reads (gs li) c ++ allE MM reads (fv c (gs li)) (cs.drop (i + 1)))
        rw [steps_append]
    · rintro σ H' ⟨z1, z2, z3, si, li, ys, rfl, sm, Si, hl', hv, hmi, he⟩
      rw [hlen, List.drop_eq_nil_of_le (by rw [hc.1]; exact Nat.le_refl _)] at he
      have he : si = lastS MM reads cs := he
      subst he
      obtain ⟨dx, hp'⟩ := Si.ob
      have hn := lastS_n (M := MM) hc
      refine ⟨_, rfl, p, dx, _, rfl, hp', cf_meth ex0_no, p, d, _, rfl, Si.toCoO, by omega, fun t H9 ht s9 hr9 => q t H9 ?_ (sm.trans s9) hr9⟩
      cases e : H t with
      | none => rfl
      | some o => rw [sm _ _ e] at ht; cases ht
end
end K4
namespace K4
open PySem PySem.Spec PyProof.Rows L2
variable {P : Program} {w : World} {K : PySem.W.Frag} {mg : Str → Option Value} {base : Heap}
/-! ### the reader's blocks -/
section
variable {C : Addr} {L : List Int} {t : Addr}
theorem JR.same {H H' : Hp} (j : JR K L t H) (s : Same H H') : JR K L t H' := s.seqT j
theorem ixN_nat {n j : Nat} (h : j < n) : ixN n (j : Int) = some j := by
  unfold ixN
  rw [if_pos (by omega), if_pos (by omega)]
  rfl
theorem num_m {nm : Nat → Str} {most : Int} (h1 : 0 ≤ most) (h2 : most ≤ 8190) (f : Nat → Int) (s : CS Str) : (run f (numT nm most) s).2.m ≤ s.m + 24 := by
  have hg : lg (most + 1) ≤ 12 := lg_le (by omega)
  exact run_m ((num_len nm most rfl).mono (by omega)) f s
theorem num_val {nm : Nat → Str} {most : Int} (h1 : 0 ≤ most) (f : Nat → Int) (s : CS Str) : 0 ≤ (run f (numT nm most) s).1.1 ∧ (run f (numT nm most) s).1.1 ≤ most := by
  obtain ⟨π, h, _⟩ := run_way f (numT nm most) s
  exact (num_codec nm h1).val π _ _ h
def spRVec (K : PySem.W.Frag) (C : Addr) (L : List Int) (t : Addr) : Sp := fun vs H Q _ => ∃ (p d : Addr) (gx : V) (g : Vec) (s : CS Str), vs = [.ref p, gx] ∧ IsV K H gx g ∧ CoS C (exR L t) p d H s ∧ JR K L t H ∧ s.m ≤ 7900 ∧
  ∀ y H', CoS C (exR L t) p d H' (run (fn L) (vecT MM g) s).2 → But p d H H' → IsV K H' y (run (fn L) (vecT MM g) s).1.1 → Q y H'
theorem sc_rvec : FnScope ["reader", "guess", "x", "y"] ["reader", "guess"] (defScope s_read_vector) := ⟨rfl, rfl, rfl, by decide +kernel, rfl, by decide +kernel, by decide +kernel⟩
theorem run_vec (f : Nat → Int) (g : Vec) (s : CS Str) : (run f (vecT MM g) s).2 = (run f (numT MM.y 64) (run f (numT MM.x 64) s).2).2 ∧
    (run f (vecT MM g) s).1.1 = (vp ((run f (numT MM.x 64) s).1.1 + g.1), vp ((run f (numT MM.y 64) (run f (numT MM.x 64) s).2).1.1 + g.2)) := by
  unfold vecT
  rw [run_bindO, run_bindO]
  exact ⟨rfl, rfl⟩
theorem d_rvec (N : Ct mg) (D : Df K mg "read_vector" s_read_vector) (GN : Mk4 P w K mg base 6 C "number" ["self", "name", "most"] (spRNum K C L t)) (GP : Dk P w K mg base CX0 1 "vector_part" ["part"] spVp) : Dk P w K mg base CX0 7 "read_vector" ["reader", "guess"] (spRVec K C L t) := by
  refine Dk.mk' D sc_rvec (fun _ _ _ _ _ _ us hl => match us, hl with | [_, _], _ => rfl) (fun vs H Q E h => ?_) (fun cdv A outer s H vs Q E hr h => ?_)
  · obtain ⟨p, d, gx, g, s, rfl, _⟩ := h
    rfl
  · obtain ⟨p, d, gx, g, s1, rfl, ⟨b, rfl, hb⟩, S, hj, hm, q⟩ := h
    obtain ⟨r1, r2⟩ := run_vec (fn L) g s1
    rw [r1, r2] at q
    refine ⟨_, pss_cons (ps_set (i := 2) sc_rvec.nd rfl (.inl rfl) (pmeth GN hr (by decide) (pv 0) (pa_cons pe_str (pa_cons (pe_op op_sub (pgI N.turn) pe_int) pa_nil))))
      (pss_cons (ps_set (i := 3) sc_rvec.nd rfl (.inl rfl) (pmeth GN hr (by decide) (pv 0) (pa_cons pe_str (pa_cons (pe_op op_sub (pgI N.turn) pe_int) pa_nil))))
      (pss_one (ps_ret (pe_tup (pa_cons (pcall GP hr (by decide) rfl (pa_cons (pe_op op_add (pv 2) (pe_ix ix_tup (pv 1) pe_int (fun _ _ => rfl))) pa_nil)) (pa_cons (pcall GP hr (by decide) rfl (pa_cons (pe_op op_add (pv 3) (pe_ix ix_tup (pv 1) pe_int (fun _ _ => rfl))) pa_nil)) pa_nil)))))), ?_⟩
    obtain ⟨dx, hp⟩ := S.ob
    refine ⟨_, rfl, p, dx, _, rfl, hp, cf_meth exR_no, _, _, rfl, rfl, p, d, "x", 64, s1, rfl, str_xy.1, by decide, by decide, S, hj, by omega, fun H1 S1 b1 => ?_⟩
    have m1 := num_m (nm := MM.x) (show (0 : Int) ≤ 64 by decide) (by decide) (fn L) s1
    have j1 := JR.but hj S b1
    obtain ⟨dx1, hp1⟩ := S1.ob
    have S1 : CoS C (exR L t) p d H1 (run (fn L) (numT MM.x 64) s1).2 := S1
    refine ⟨_, rfl, p, dx1, _, rfl, hp1, cf_meth exR_no, _, _, rfl, rfl, p, d, "y", 64, _, rfl, str_xy.2, by decide, by decide, S1, j1, by omega, fun H2 S2 b2 => ?_⟩
    have hb2 := S1.tk (K := K) b2 _ _ (S.tk (K := K) b1 _ _ hb)
    refine ⟨_, rfl, _, rfl, b, _, 0, _, rfl, rfl, hb2, atI_nat (j := 0) rfl, _, _, rfl, rfl, _, rfl, _, rfl, _, rfl, b, _, 1, _, rfl, rfl, hb2, atI_nat (j := 1) rfl, _, _, rfl, rfl, _, rfl, by show 2 ≤ sizeLine; decide, fun u hu => ?_⟩
    exact q _ _ (S2.same (Same.new hu)) ((b1.trans b2).trans (But.of_same (Same.new hu))) ⟨u, rfl, .inl (.inl upd_same)⟩
/-! read_rest -/
def spRRest (K : PySem.W.Frag) (C : Addr) (L : List Int) (t : Addr) : Sp := fun vs H Q _ => ∃ (p d : Addr) (s : CS Str), vs = [.ref p] ∧ CoS C (exR L t) p d H s ∧ JR K L t H ∧ s.m ≤ 7000 ∧
  ∀ y H', CoS C (exR L t) p d H' (run (fn L) (restT MM) s).2 → But p d H H' → IsR K H' y (run (fn L) (restT MM) s).1.1 → Q y H'
theorem sc_rrest : FnScope ["reader", "found", "at", "place", "number"] ["reader"] (defScope s_read_rest) := ⟨rfl, rfl, rfl, by decide +kernel, rfl, by decide +kernel, by decide +kernel⟩
theorem run_rest (f : Nat → Int) (s : CS Str) : (run f (restT MM) s) = (if rd f (some MM.rest) s = true then run f (markO (goT MM.size order zeros)) (step (some MM.rest) true s) else ((zeros, false), step (some MM.rest) false s)) := by
  unfold restT
  show run f (if rd f (some MM.rest) s = true then markO (goT MM.size order zeros) else retO zeros) (step (some MM.rest) (rd f (some MM.rest) s) s) = _
  cases h : rd f (some MM.rest) s
  · rfl
  · rfl
theorem run_mark (f : Nat → Int) (u : TO Str (List Int)) (s : CS Str) : (run f (markO u) s).2 = (run f u s).2 ∧ (run f (markO u) s).1.1 = (run f u s).1.1 := by
  unfold markO
  rw [run_bind]
  exact ⟨rfl, rfl⟩
theorem run_snum (f : Nat → Int) (nm : Nat → Str) (s : CS Str) : run f (snumT nm) s = (if (run f (numT nm 4000) s).1.1 = 0 then ((0, (run f (numT nm 4000) s).1.2 || false), (run f (numT nm 4000) s).2) else
    (((if rd f none (run f (numT nm 4000) s).2 = true then -(run f (numT nm 4000) s).1.1 else (run f (numT nm 4000) s).1.1), (run f (numT nm 4000) s).1.2 || false), step none (rd f none (run f (numT nm 4000) s).2) (run f (numT nm 4000) s).2)) := by
  unfold snumT
  rw [run_bindO]
  by_cases c : (run f (numT nm 4000) s).1.1 = 0
  · rw [if_pos c, if_pos c]
    rfl
  · rw [if_neg c, if_neg c]
    rfl
theorem d_rrest (B : Bt mg) (N : Ct mg) (T : Tb K w mg) (D : Df K mg "read_rest" s_read_rest) (GB : Mk4 P w K mg base 5 C "bit" ["self", "name"] (spRBit K C L t)) (GE : Mk4 P w K mg base 5 C "even" ["self"] (spREven K C L t)) (GN : Mk4 P w K mg base 6 C "number" ["self", "name", "most"] (spRNum K C L t)) :
    Dk P w K mg base CX0 7 "read_rest" ["reader"] (spRRest K C L t) := by
  refine Dk.mk' D sc_rrest (fun _ _ _ _ _ _ us hl => match us, hl with | [_], _ => rfl) (fun vs H Q E h => ?_) (fun cdv A outer s H vs Q E hr h => ?_)
  · obtain ⟨p, d, s, rfl, _⟩ := h
    rfl
  · obtain ⟨p, d, s1, rfl, S, hj, hm, q⟩ := h
    obtain ⟨od, god, hod⟩ := T.order
    have hod : ∀ H, SqT K H od (ordL.map V.int) := hod
    rw [run_rest] at q
    refine ⟨_, pss_cons (ps_set (i := 1) sc_rrest.nd rfl (.inl rfl) (pe_op op_rep (pe_lst (pa_cons pe_int pa_nil)) pe_int))
      (pss_cons (ps_if (pt_cmpR op_eq (pmeth GB hr (by decide) (pv 0) (pa_cons pe_str pa_nil)) pe_int (nomark _))
        (pss_one (ps_for PassesOwn.never rfl (pi_enumT rfl B.enumerate (pa_cons (pgR god) pa_nil)) (pg_tup (by rfl) (pgs_cons (pg_name (i := 2) sc_rrest.nd rfl (.inl rfl)) (pgs_cons (pg_name (i := 3) sc_rrest.nd rfl (.inl rfl)) pgs_nil)))
          (pss_cons (ps_set (i := 4) sc_rrest.nd rfl (.inl rfl) (pmeth GN hr (by decide) (pv 0) (pa_cons (pe_sz (pv 2)) (pa_cons (pgI N.mostRest) pa_nil))))
          (pss_cons (ps_if (PW.pt (pw_and (pt_cmpR op_ne (pv 4) pe_int (nomark _)) (pw_and1 (pt_cmpR op_eq (pmeth0 GE hr (by decide) (pv 0)) pe_int (nomark _))))) (pss_one (ps_set (i := 4) sc_rrest.nd rfl (.inl rfl) (pe_un un_neg (pv 4)))) pss_nil)
          (pss_one (ps_asg (pv 4) (pg_sub (pv 1) (pv 3) set_list (fun _ => rfl)))))))) pss_nil)
      (pss_one (ps_ret (pT call_tuple_of B.tuple (pa_cons (pv 1) pa_nil))))), ?_⟩
    refine ⟨by show 1 ≤ sizeLine; decide, fun l0 hl0 => ⟨l0, 16, [.int 0], rfl, rfl, upd_same, by decide, by decide, by decide, fun l hl => ?_⟩⟩
    have sm : Same H (upd (upd H l0 (.lst [.int 0])) l (.lst (zeros.map V.int))) := (Same.new hl0).trans (Same.new hl)
    have eh : upd (upd H l0 (.lst [.int 0])) l (.lst (List.replicate (Int.toNat 16) [V.int 0]).flatten) = upd (upd H l0 (.lst [.int 0])) l (.lst (zeros.map V.int)) := rfl
    rw [eh]
    have hl1 : upd (upd H l0 (.lst [.int 0])) l (.lst (zeros.map V.int)) l = some (.lst (zeros.map V.int)) := upd_same
    generalize upd (upd H l0 (.lst [.int 0])) l (.lst (zeros.map V.int)) = H1 at sm hl1
    have S1 := S.same sm
    have j1 := JR.same hj sm
    obtain ⟨dx, hp⟩ := S1.ob
    have keep : ∀ {H5 H6 : Hp} {s5 : CS Str} {xs : List V}, CoS C (exR L t) p d H5 s5 → But p d H5 H6 → H5 l = some (.lst xs) → H6 l = some (.lst xs) := fun S5 b5 h5 => by
      obtain ⟨⟨⟨dx2, hp2⟩, _⟩, kvs, hd2, _⟩ := S5
      exact b5 _ _ h5 (ne_of h5 hp2 (fun z => nomatch z)) (ne_of h5 hd2 (fun z => nomatch z))
    refine ⟨_, rfl, p, dx, _, rfl, hp, cf_meth exR_no, p, d, "rest", s1, rfl, S1, j1, by omega, fun H2 S2 b2 => ?_⟩
    have hl2 := keep S1 b2 hl1
    have j2 := JR.but j1 S1 b2
    have S2 : CoS C (exR L t) p d H2 (step (some MM.rest) (rd (fn L) (some MM.rest) s1) s1) := S2
    have b02 : But p d H H2 := (But.of_same sm).trans b2
    show scal _ _ = true ∧ _
    refine ⟨rfl, _, rfl, ?_⟩
    change (if (decide (V.int (b2i (rd (fn L) (some MM.rest) s1)) = V.int 1)) = true then _ else _)
    cases hb : rd (fn L) (some MM.rest) s1 with
    | false =>
      rw [hb] at q S2
      rw [if_neg (by decide)] at q
      refine iteF ⟨_, rfl, l, _, rfl, .inl ⟨.inl (.inl hl2), fun u hu => q _ _ (S2.same (Same.new hu)) (b02.trans (But.of_same (Same.new hu))) ⟨u, rfl, .inl (.inl upd_same)⟩⟩⟩
    | true =>
      rw [hb] at q S2
      rw [if_pos rfl] at q
      obtain ⟨k1, k2⟩ := run_mark (fn L) (goT MM.size order zeros) (step (some MM.rest) true s1)
      rw [k1, k2] at q
      have m2 : (step (some MM.rest) true s1).m = s1.m + 1 := step_m _ _ _
      generalize step (some MM.rest) true s1 = s2 at q S2 m2
      refine iteT ⟨od, _, rfl, hod H2, for_enumT (xs := ordL.map V.int) (fun i σ H' => ∃ (z1 z2 z3 : Option V) (s3 : CS Str) (fd : List Int), σ = [some (.ref p), some (.ref l), z1, z2, z3] ∧ But p d H H' ∧ CoS C (exR L t) p d H' s3 ∧ JR K L t H' ∧ H' l = some (.lst (fd.map V.int)) ∧ fd.length = 16 ∧ s3.m ≤ s2.m + 30 * i ∧
          (run (fn L) (goT MM.size (order.drop i) fd) s3).1.1 = (run (fn L) (goT MM.size order zeros) s2).1.1 ∧ (run (fn L) (goT MM.size (order.drop i) fd) s3).2 = (run (fn L) (goT MM.size order zeros) s2).2)
        ⟨none, none, none, s2, zeros, rfl, b02, S2, j2, hl2, rfl, by omega, rfl, rfl⟩ (fun i σ H' _ => hod H') ?_ ?_⟩
      · rintro i x T σ H' hx ⟨z1, z2, z3, s3, fd, rfl, b3, S3, j3, hl3, hfl, hm3, e3, e4⟩ hT
        have hi : i < 16 := by
          have := (List.getElem?_eq_some_iff.mp hx).1
          rw [List.length_map] at this
          exact this
        obtain ⟨pl, hpl, hdrop, hat⟩ := ord_at i hi
        rw [List.getElem?_map, hat] at hx
        obtain rfl : V.int (pl : Int) = x := Option.some.inj hx
        have sT : Same H' (upd H' T (.tup [.int (i : Nat), .int pl])) := Same.new hT
        have S4 := S3.same sT
        have j4 := JR.same j3 sT
        have tt : SqT K (upd H' T (.tup [.int (i : Nat), .int pl])) T [.int (i : Nat), .int pl] := .inl (.inl upd_same)
        have hl4 : upd H' T (.tup [.int (i : Nat), .int pl]) l = some (.lst (fd.map V.int)) := sT _ _ hl3
        have b4 : But p d H (upd H' T (.tup [.int (i : Nat), .int pl])) := b3.trans (But.of_same sT)
        generalize upd H' T (.tup [.int (i : Nat), .int pl]) = H4 at S4 tt hl4 b4 j4
        obtain ⟨dx4, hp4⟩ := S4.ob
        refine ⟨T, _, rfl, tt, rfl, _, _, rfl, _, _, rfl, rfl, ?_⟩
        rw [hdrop] at e3 e4
        unfold goT at e3 e4
        rw [run_bindO] at e3 e4
        have e3 : (run (fn L) (goT MM.size (order.drop (i + 1)) (fd.set pl (run (fn L) (snumT (MM.size i)) s3).1.1)) (run (fn L) (snumT (MM.size i)) s3).2).1.1 = _ := e3
        have e4 : (run (fn L) (goT MM.size (order.drop (i + 1)) (fd.set pl (run (fn L) (snumT (MM.size i)) s3).1.1)) (run (fn L) (snumT (MM.size i)) s3).2).2 = _ := e4
        rw [run_snum] at e3 e4
        refine ⟨_, rfl, p, dx4, _, rfl, hp4, cf_meth exR_no, _, i, rfl, rfl, by omega, p, d, szOf i, 4000, s3, rfl, sz_len (by omega), by decide, by decide, S4, j4, by omega, fun H5 S5 b5 => ?_⟩
        have hl5 := keep S4 b5 hl4
        have j5 := JR.but j4 S4 b5
        have m5 := num_m (nm := MM.size i) (show (0 : Int) ≤ 4000 by decide) (by decide) (fn L) s3
        have S5 : CoS C (exR L t) p d H5 (run (fn L) (numT (MM.size i) 4000) s3).2 := S5
        show gName 4 (V.int (run (fn L) (numT (MM.size i) 4000) s3).1.1) _ _ _
        generalize run (fn L) (numT (MM.size i) 4000) s3 = r5 at S5 e3 e4 m5
        refine ⟨_, rfl, rfl, _, rfl, ?_⟩
        have hix : ixN (fd.map V.int).length (pl : Int) = some pl := ixN_nat (by rw [List.length_map, hfl]; exact hpl)
        have hset : ∀ z : Int, (fd.map V.int).set pl (V.int z) = (fd.set pl z).map V.int := fun z => by rw [List.map_set]
        have fld : ∀ {H6 : Hp} {s6 : CS Str} {o : HO}, CoS C (exR L t) p d H6 s6 → H6 l = some (.lst (fd.map V.int)) → CoS C (exR L t) p d (upd H6 l o) s6 := fun S6 h6 => by
          obtain ⟨⟨⟨dx2, hp2⟩, ok2⟩, kvs, hd2, r2⟩ := S6
          exact ⟨⟨⟨dx2, by rw [upd_ne (ne_of hp2 h6 (fun z => nomatch z))]; exact hp2⟩, ok2⟩, kvs, by rw [upd_ne (ne_of hd2 h6 (fun z => nomatch z))]; exact hd2, r2⟩
        have hlH : H l = none := by
          cases e : H l with
          | none => rfl
          | some o =>
            rw [upd_ne (fun z => by
              rw [z] at e; rw [hl0] at e; cases e)] at hl
            rw [hl] at e; cases e
        have bfld : ∀ {H6 : Hp} {o : HO}, But p d H H6 → But p d H (upd H6 l o) := fun b6 a o e n1 n2 => by
          rw [upd_ne (ne_of_none e hlH)]
          exact b6 a o e n1 n2
        have jfld : ∀ {H6 : Hp} {o : HO}, JR K L t H6 → H6 l = some (.lst (fd.map V.int)) → JR K L t (upd H6 l o) := fun j6 h6 => seqT_upd h6 (fun _ z => nomatch z) (fun _ _ z => nomatch z) j6
        by_cases c : r5.1.1 = 0
        · rw [if_pos c] at e3 e4
          rw [c]
          refine iteF ⟨_, rfl, _, rfl, _, rfl, l, _, _, pl, rfl, rfl, hl5, hix, ?_⟩
          rw [hset]
          exact ⟨_, _, _, r5.2, fd.set pl 0, rfl, bfld (b4.trans b5), fld S5 hl5, jfld j5 hl5, upd_same, by rw [List.length_set]; exact hfl, by omega, e3, e4⟩
        · rw [if_neg c] at e3 e4
          rw [decide_eq_false (fun h => c (V.int.inj h))]
          refine iteT ?_
          obtain ⟨dx5, hp5⟩ := S5.ob
          refine ⟨_, rfl, p, dx5, _, rfl, hp5, cf_meth exR_no, p, d, r5.2, rfl, S5, j5, fun H6 S6 b6 => ?_⟩
          have hl6 := keep S5 b6 hl5
          have j6 := JR.but j5 S5 b6
          have b06 := (b4.trans b5).trans b6
          have m6 : (step none (rd (fn L) none r5.2) r5.2).m = r5.2.m + 1 := step_m _ _ _
          refine ⟨rfl, _, rfl, ?_⟩
          change (if (decide (V.int (b2i (rd (fn L) none r5.2)) = V.int 1)) = true then _ else _)
          cases hb2 : rd (fn L) none r5.2 with
          | false =>
            rw [hb2] at e3 e4 S6 m6
            refine iteF ⟨_, rfl, _, rfl, _, rfl, l, _, _, pl, rfl, rfl, hl6, hix, ?_⟩
            rw [hset]
            exact ⟨_, _, _, step none false r5.2, fd.set pl r5.1.1, rfl, bfld b06, fld S6 hl6, jfld j6 hl6, upd_same, by rw [List.length_set]; exact hfl, by omega, e3, e4⟩
          | true =>
            rw [hb2] at e3 e4 S6 m6
            refine iteT ⟨_, rfl, _, rfl, _, rfl, _, rfl, _, rfl, l, _, _, pl, rfl, rfl, hl6, hix, ?_⟩
            rw [hset]
            exact ⟨_, _, _, step none true r5.2, fd.set pl (-r5.1.1), rfl, bfld b06, fld S6 hl6, jfld j6 hl6, upd_same, by rw [List.length_set]; exact hfl, by omega, e3, e4⟩
      · rintro σ H' ⟨z1, z2, z3, s3, fd, rfl, b3, S3, j3, hl3, hfl, hm3, e3, e4⟩
        have e3 : fd = _ := e3
        have e4 : s3 = _ := e4
        rw [← e3, ← e4] at q
        exact ⟨_, rfl, l, _, rfl, .inl ⟨.inl (.inl hl3), fun u hu => q _ _ (S3.same (Same.new hu)) (b3.trans (But.of_same (Same.new hu))) ⟨u, rfl, .inl (.inl upd_same)⟩⟩⟩
end
end K4
namespace K4
open PySem PySem.Spec PyProof.Rows L2
variable {P : Program} {w : World} {K : PySem.W.Frag} {mg : Str → Option Value} {base : Heap}
section
variable {C : Addr} {L : List Int} {t : Addr}
def brT (reads : Nat) (g : Vec) (k : Int) : TO Str Ch := if k = 4 then bindO (whichT MM reads) fun w => retO (.as w)
  else if k = 5 then bindO (whichT MM reads) fun w => bindO (vecT MM g) fun v => bindO (restT MM) fun r => retO (.mov w v r)
  else if k = 6 then bindO (vecT MM g) fun v => bindO (vecT MM v) fun u => bindO (restT MM) fun r => retO (.both v u r)
  else bindO (restT MM) fun r => retO (.bes k.toNat r)
theorem run_choice (f : Nat → Int) (reads : Nat) (g : Vec) (s : CS Str) : (run f (choiceT MM reads g) s).2 = (run f (brT reads g (run f (numT MM.kind (kinds reads - 1)) s).1.1) (run f (numT MM.kind (kinds reads - 1)) s).2).2 ∧
    (run f (choiceT MM reads g) s).1.1 = (run f (brT reads g (run f (numT MM.kind (kinds reads - 1)) s).1.1) (run f (numT MM.kind (kinds reads - 1)) s).2).1.1 := by
  unfold choiceT
  rw [run_bindO]
  exact ⟨rfl, rfl⟩
theorem run_which (f : Nat → Int) (reads : Nat) (s : CS Str) : run f (whichT MM reads) s = if reads = 2 then ((rd f (some MM.which) s, false), step (some MM.which) (rd f (some MM.which) s) s) else ((false, false), s) := by
  unfold whichT
  by_cases c : reads = 2
  · rw [if_pos c, if_pos c]; rfl
  · rw [if_neg c, if_neg c]; rfl
def kN (k : Nat) : Str := if k < 4 then bes k else if k = 4 then "as" else if k = 5 then "moved" else "both"
theorem kN_0 : ∀ k < 4, (kindsL 0)[k]? = some (kN k) := by decide +kernel
theorem kN_1 : ∀ k < 6, (kindsL 1)[k]? = some (kN k) := by decide +kernel
theorem kN_2 : ∀ k < 7, (kindsL 2)[k]? = some (kN k) := by decide +kernel
theorem kN_at {reads k : Nat} (h : reads ≤ 2) (hk : (k : Int) ≤ kinds reads - 1) : (kindsL reads)[k]? = some (kN k) := by
  rcases (show reads = 0 ∨ reads = 1 ∨ reads = 2 by omega) with rfl | rfl | rfl
  · exact kN_0 k (by have : kinds 0 = 4 := rfl; omega)
  · exact kN_1 k (by have : kinds 1 = 6 := rfl; omega)
  · exact kN_2 k (by have : kinds 2 = 7 := rfl; omega)
def spRCh (K : PySem.W.Frag) (C : Addr) (L : List Int) (t : Addr) : Sp := fun vs H Q _ => ∃ (p d : Addr) (gx : V) (g : Vec) (reads : Nat) (s : CS Str), vs = [.ref p, gx, .int reads] ∧ reads ≤ 2 ∧ IsV K H gx g ∧ CoS C (exR L t) p d H s ∧ JR K L t H ∧ s.m ≤ 6000 ∧
  ∀ y H', CoS C (exR L t) p d H' (run (fn L) (choiceT MM reads g) s).2 → But p d H H' → IsCh K H' y (run (fn L) (choiceT MM reads g) s).1.1 → Q y H'
theorem sc_rch : FnScope ["reader", "guess", "reads", "kinds", "kind", "which", "vector", "other"] ["reader", "guess", "reads"] (defScope s_read_choice) := ⟨rfl, rfl, rfl, by decide +kernel, rfl, by decide +kernel, by decide +kernel⟩
theorem vec_m (f : Nat → Int) (g : Vec) (s : CS Str) : (run f (vecT MM g) s).2.m ≤ s.m + 24 := run_m (vec_len g) f s
theorem d_rch (B : Bt mg) (D : Df K mg "read_choice" s_read_choice) (GK : Dk P w K mg base CX0 1 "kinds_for" ["reads"] (spKinds K)) (GN : Mk4 P w K mg base 6 C "number" ["self", "name", "most"] (spRNum K C L t)) (GB : Mk4 P w K mg base 5 C "bit" ["self", "name"] (spRBit K C L t))
    (GV : Dk P w K mg base CX0 7 "read_vector" ["reader", "guess"] (spRVec K C L t)) (GR : Dk P w K mg base CX0 7 "read_rest" ["reader"] (spRRest K C L t)) : Dk P w K mg base CX0 8 "read_choice" ["reader", "guess", "reads"] (spRCh K C L t) := by
  refine Dk.mk' D sc_rch (fun _ _ _ _ _ _ us hl => match us, hl with | [_, _, _], _ => rfl) (fun vs H Q E h => ?_) (fun cdv A outer s H vs Q E hr h => ?_)
  · obtain ⟨p, d, gx, g, reads, s, rfl, _⟩ := h
    rfl
  · obtain ⟨p, d, gx, g, reads, s1, rfl, h2, hg, S, hj, hm, q⟩ := h
    obtain ⟨r1, r2⟩ := run_choice (fn L) reads g s1
    rw [r1, r2] at q
    refine ⟨_, pss_cons (ps_set (i := 3) sc_rch.nd rfl (.inl rfl) (pcall GK hr (by decide) rfl (pa_cons (pv 2) pa_nil)))
      (pss_cons (ps_set (i := 4) sc_rch.nd rfl (.inl rfl) (pe_ix ix_tup (pv 3) (pmeth GN hr (by decide) (pv 0) (pa_cons pe_str (pa_cons (pe_op op_sub (pB call_len B.len (pa_cons (pv 3) pa_nil)) pe_int) pa_nil))) (fun _ _ => rfl)))
      (pss_cons (ps_set (i := 5) sc_rch.nd rfl (.inl rfl) (pe_ifExp (PW.pt (pw_and (pt_cmpR op_in_seq (pv 4) (pe_tup (pa_cons pe_str (pa_cons pe_str pa_nil))) (by rfl)) (pw_and1 (pt_cmpR op_eq (pv 2) pe_int (nomark _))))) (pmeth GB hr (by decide) (pv 0) (pa_cons pe_str pa_nil)) pe_int))
      (pss_cons (ps_if (pt_cmpR op_eq (pv 4) pe_str (nomark _)) (pss_one (ps_ret (pe_tup (pa_cons (pv 4) (pa_cons (pv 5) pa_nil))))) pss_nil)
      (pss_cons (ps_if (pt_cmpR op_eq (pv 4) pe_str (nomark _)) (pss_cons (ps_set (i := 6) sc_rch.nd rfl (.inl rfl) (pcall GV hr (by decide) rfl (pa_cons (pv 0) (pa_cons (pv 1) pa_nil))))
          (pss_one (ps_ret (pe_tup (pa_cons (pv 4) (pa_cons (pv 5) (pa_cons (pv 6) (pa_cons (pcall GR hr (by decide) rfl (pa_cons (pv 0) pa_nil)) pa_nil)))))))) pss_nil)
      (pss_cons (ps_if (pt_cmpR op_eq (pv 4) pe_str (nomark _)) (pss_cons (ps_set (i := 6) sc_rch.nd rfl (.inl rfl) (pcall GV hr (by decide) rfl (pa_cons (pv 0) (pa_cons (pv 1) pa_nil))))
          (pss_cons (ps_set (i := 7) sc_rch.nd rfl (.inl rfl) (pcall GV hr (by decide) rfl (pa_cons (pv 0) (pa_cons (pv 6) pa_nil))))
          (pss_one (ps_ret (pe_tup (pa_cons (pv 4) (pa_cons (pv 6) (pa_cons (pv 7) (pa_cons (pcall GR hr (by decide) rfl (pa_cons (pv 0) pa_nil)) pa_nil))))))))) pss_nil)
      (pss_one (ps_ret (pe_tup (pa_cons (pv 4) (pa_cons (pcall GR hr (by decide) rfl (pa_cons (pv 0) pa_nil)) pa_nil)))))))))), ?_⟩
    refine ⟨_, rfl, reads, rfl, h2, fun kt H1 s01 hk _ => ?_⟩
    have S1 := S.same s01
    have j1 := JR.same hj s01
    have hg1 : IsV K H1 gx g := IsV.tk s01.tk hg
    obtain ⟨dx, hp⟩ := S1.ob
    have hkl := kindsL_len h2
    have hkk : 4 ≤ kinds reads ∧ kinds reads ≤ 7 := kinds_ge reads
    refine ⟨_, rfl, _, rfl, p, dx, _, rfl, hp, cf_meth exR_no, _, rfl, _, _, rfl, .inr ⟨_, hk, rfl⟩, _, _, rfl, rfl, ?_⟩
    rw [List.length_map, hkl]
    refine ⟨p, d, "kind", kinds reads - 1, s1, rfl, by decide +kernel, by omega, by omega, S1, j1, by omega, fun H2 S2 b2 => ?_⟩
    have nv := num_val (nm := MM.kind) (show 0 ≤ kinds reads - 1 by omega) (fn L) s1
    have nm' := num_m (nm := MM.kind) (show 0 ≤ kinds reads - 1 by omega) (by omega) (fn L) s1
    have S2 : CoS C (exR L t) p d H2 (run (fn L) (numT MM.kind (kinds reads - 1)) s1).2 := S2
    show rIxT _ (.ref kt) (.int (run (fn L) (numT MM.kind (kinds reads - 1)) s1).1.1) _ _
    generalize run (fn L) (numT MM.kind (kinds reads - 1)) s1 = r0 at S2 nv nm' q
    have j2 := JR.but j1 S1 b2
    have k2 := S1.tk (K := K) b2
    have hk2 := k2 _ _ hk
    have hg2 := hg1.tk k2
    have b02 : But p d H H2 := (But.of_same s01).trans b2
    obtain ⟨k, ek⟩ : ∃ k : Nat, r0.1.1 = (k : Int) := ⟨r0.1.1.toNat, by omega⟩
    obtain ⟨⟨kv, ko⟩, s2⟩ := r0
    have ek : kv = (k : Int) := ek
    subst ek
    have nv : 0 ≤ (k : Int) ∧ (k : Int) ≤ kinds reads - 1 := nv
    have nm' : s2.m ≤ s1.m + 24 := nm'
    have S2 : CoS C (exR L t) p d H2 s2 := S2
    have q : ∀ y H', CoS C (exR L t) p d H' (run (fn L) (brT reads g (k : Int)) s2).2 → But p d H H' → IsCh K H' y (run (fn L) (brT reads g (k : Int)) s2).1.1 → Q y H' := q
    have hat : ((kindsL reads).map V.str)[k]? = some (.str (kN k)) := by rw [List.getElem?_map, kN_at h2 nv.2]; rfl
    refine ⟨kt, _, _, _, rfl, rfl, hk2, atI_nat hat, ?_⟩
    refine ⟨_, rfl, by show 2 ≤ sizeLine; decide, fun tp htp => ?_⟩
    have sT : Same H2 (upd H2 tp (.tup [.str "as", .str "moved"])) := Same.new htp
    have tt : SqT K (upd H2 tp (.tup [.str "as", .str "moved"])) tp ((["as", "moved"] : List Str).map V.str) := .inl (.inl upd_same)
    have S3 := S2.same sT
    have j3 := JR.same j2 sT
    have hg3 : IsV K (upd H2 tp (.tup [.str "as", .str "moved"])) gx g := hg2.tk sT.tk
    have b03 := b02.trans (But.of_same sT)
    generalize upd H2 tp (.tup [.str "as", .str "moved"]) = H3 at tt S3 j3 hg3 b03
    obtain ⟨dx3, hp3⟩ := S3.ob
    refine ⟨tp, _, rfl, .inr tt, rfl, rfl, ?_⟩
    rw [if_neg Bool.false_ne_true]
    rcases (show k < 4 ∨ k = 4 ∨ k = 5 ∨ k = 6 by omega) with h4 | rfl | rfl | rfl
    · have e1 : kN k = bes k := if_pos h4
      have e2 : brT reads g (k : Int) = bindO (restT MM) fun r => retO (.bes (k : Int).toNat r) := by
        unfold brT
        rw [if_neg (by omega), if_neg (by omega), if_neg (by omega)]
      rw [e2, run_bindO] at q
      have q : ∀ y H', CoS C (exR L t) p d H' (run (fn L) (restT MM) s2).2 → But p d H H' → IsCh K H' y (.bes (k : Int).toNat (run (fn L) (restT MM) s2).1.1) → Q y H' := q
      rw [Int.toNat_natCast] at q
      rw [e1]
      have ei : inV (.str (bes k)) ((["as", "moved"] : List Str).map V.str) = false := inV_not (by have := bes_not k; simp [this.1, this.2.1])
      rw [ei]
      refine ⟨_, rfl, iteF ?_⟩
      refine ⟨_, rfl, rfl, _, rfl, ite2 (fun cc => absurd (V.str.inj (of_decide_eq_true cc)) (bes_not k).1) (fun _ => ?_)⟩
      refine ⟨_, rfl, rfl, _, rfl, ite2 (fun cc => absurd (V.str.inj (of_decide_eq_true cc)) (bes_not k).2.1) (fun _ => ?_)⟩
      refine ⟨_, rfl, rfl, _, rfl, ite2 (fun cc => absurd (V.str.inj (of_decide_eq_true cc)) (bes_not k).2.2) (fun _ => ?_)⟩
      refine ⟨_, rfl, _, rfl, p, d, s2, rfl, S3, j3, by omega, fun y H4 S4 b4 hy => ⟨by show 2 ≤ sizeLine; decide, fun u hu => ?_⟩⟩
      exact q _ _ (S4.same (Same.new hu)) ((b03.trans b4).trans (But.of_same (Same.new hu))) ⟨u, _, rfl, .inl (.inl upd_same), y, rfl, hy.tk (Same.new hu).tk⟩
    · have e1 : kN 4 = "as" := by decide +kernel
      have e2 : brT reads g ((4 : Nat) : Int) = bindO (whichT MM reads) fun w => retO (.as w) := rfl
      rw [e2, run_bindO] at q
      have q : ∀ y H', CoS C (exR L t) p d H' (run (fn L) (whichT MM reads) s2).2 → But p d H H' → IsCh K H' y (.as (run (fn L) (whichT MM reads) s2).1.1) → Q y H' := q
      rw [run_which] at q
      rw [e1, inV_str (show ("as" : Str) ∈ (["as", "moved"] : List Str) by decide +kernel)]
      refine ⟨_, rfl, iteT ?_⟩
      refine ⟨_, rfl, rfl, _, rfl, ?_⟩
      by_cases c2 : reads = 2
      · rw [if_pos c2] at q
        rw [decide_eq_true (show V.int (reads : Int) = V.int 2 by rw [c2]; rfl)]
        refine iteT ?_
        refine ⟨_, rfl, p, dx3, _, rfl, hp3, cf_meth exR_no, p, d, "which", s2, rfl, S3, j3, by omega, fun H4 S4 b4 => ?_⟩
        refine ⟨_, rfl, rfl, _, rfl, ite2 (fun _ => ?_) (fun cc => absurd (decide_eq_true rfl) cc)⟩
        refine ⟨_, rfl, _, rfl, by show 2 ≤ sizeLine; decide, fun u hu => ?_⟩
        exact q _ _ (S4.same (Same.new hu)) ((b03.trans b4).trans (But.of_same (Same.new hu))) ⟨u, _, rfl, .inl (.inl upd_same), rfl⟩
      · rw [if_neg c2] at q
        rw [decide_eq_false (fun h => c2 (by have := V.int.inj h; omega))]
        refine iteF ?_
        refine ⟨_, rfl, rfl, _, rfl, ite2 (fun _ => ?_) (fun cc => absurd (decide_eq_true rfl) cc)⟩
        refine ⟨_, rfl, _, rfl, by show 2 ≤ sizeLine; decide, fun u hu => ?_⟩
        exact q _ _ (S3.same (Same.new hu)) (b03.trans (But.of_same (Same.new hu))) ⟨u, _, rfl, .inl (.inl upd_same), rfl⟩
    · have e1 : kN 5 = "moved" := by decide +kernel
      have e2 : brT reads g ((5 : Nat) : Int) = bindO (whichT MM reads) fun w => bindO (vecT MM g) fun v => bindO (restT MM) fun r => retO (.mov w v r) := rfl
      rw [e2, run_bindO, run_bindO, run_bindO] at q
      have q : ∀ y H', CoS C (exR L t) p d H' (run (fn L) (restT MM) (run (fn L) (vecT MM g) (run (fn L) (whichT MM reads) s2).2).2).2 → But p d H H' →
        IsCh K H' y (.mov (run (fn L) (whichT MM reads) s2).1.1 (run (fn L) (vecT MM g) (run (fn L) (whichT MM reads) s2).2).1.1 (run (fn L) (restT MM) (run (fn L) (vecT MM g) (run (fn L) (whichT MM reads) s2).2).2).1.1) → Q y H' := q
      rw [run_which] at q
      rw [e1, inV_str (show ("moved" : Str) ∈ (["as", "moved"] : List Str) by decide +kernel)]
      refine ⟨_, rfl, iteT ?_⟩
      refine ⟨_, rfl, rfl, _, rfl, ?_⟩
      by_cases c2 : reads = 2
      · rw [if_pos c2] at q
        rw [decide_eq_true (show V.int (reads : Int) = V.int 2 by rw [c2]; rfl)]
        refine iteT ?_
        refine ⟨_, rfl, p, dx3, _, rfl, hp3, cf_meth exR_no, p, d, "which", s2, rfl, S3, j3, by omega, fun H4 S4 b4 => ?_⟩
        have j4 := JR.but j3 S3 b4
        have hg4 := hg3.tk (S3.tk (K := K) b4)
        have b04 := b03.trans b4
        have m4 : (step (some MM.which) (rd (fn L) (some MM.which) s2) s2).m = s2.m + 1 := step_m _ _ _
        have S4 : CoS C (exR L t) p d H4 (step (some MM.which) (rd (fn L) (some MM.which) s2) s2) := S4
        have q : ∀ y H', CoS C (exR L t) p d H' (run (fn L) (restT MM) (run (fn L) (vecT MM g) (step (some MM.which) (rd (fn L) (some MM.which) s2) s2)).2).2 → But p d H H' →
          IsCh K H' y (.mov (rd (fn L) (some MM.which) s2) (run (fn L) (vecT MM g) (step (some MM.which) (rd (fn L) (some MM.which) s2) s2)).1.1 (run (fn L) (restT MM) (run (fn L) (vecT MM g) (step (some MM.which) (rd (fn L) (some MM.which) s2) s2)).2).1.1) → Q y H' := q
        generalize step (some MM.which) (rd (fn L) (some MM.which) s2) s2 = s4 at S4 m4 q
        refine ⟨_, rfl, rfl, _, rfl, ite2 (fun cc => absurd (V.str.inj (of_decide_eq_true cc)) (by decide +kernel)) (fun _ => ?_)⟩
        refine ⟨_, rfl, rfl, _, rfl, ite2 (fun _ => ?_) (fun cc => absurd (decide_eq_true rfl) cc)⟩
        have mv := vec_m (fn L) g s4
        refine ⟨_, rfl, _, rfl, p, d, gx, g, s4, rfl, hg4, S4, j4, by omega, fun v H5 S5 b5 hv => ?_⟩
        have j5 := JR.but j4 S4 b5
        generalize run (fn L) (vecT MM g) s4 = rv at S5 q mv hv
        refine ⟨_, rfl, _, rfl, _, rfl, _, rfl, p, d, rv.2, rfl, S5, j5, by omega, fun y H6 S6 b6 hy => ⟨by show 4 ≤ sizeLine; decide, fun u hu => ?_⟩⟩
        have hv6 := hv.tk (S5.tk (K := K) b6)
        exact q _ _ (S6.same (Same.new hu)) (((b04.trans b5).trans b6).trans (But.of_same (Same.new hu))) ⟨u, _, rfl, .inl (.inl upd_same), v, y, rfl, hv6.tk (Same.new hu).tk, hy.tk (Same.new hu).tk⟩
      · rw [if_neg c2] at q
        rw [decide_eq_false (fun h => c2 (by have := V.int.inj h; omega))]
        refine iteF ?_
        have j4 := j3
        have hg4 := hg3
        have b04 := b03
        have S4 := S3
        obtain ⟨s4, e4⟩ : ∃ s4, s4 = s2 := ⟨_, rfl⟩
        have m4 : s4.m ≤ s2.m + 1 := by rw [e4]; omega
        rw [← e4] at S4 q
        refine ⟨_, rfl, rfl, _, rfl, ite2 (fun cc => absurd (V.str.inj (of_decide_eq_true cc)) (by decide +kernel)) (fun _ => ?_)⟩
        refine ⟨_, rfl, rfl, _, rfl, ite2 (fun _ => ?_) (fun cc => absurd (decide_eq_true rfl) cc)⟩
        have mv := vec_m (fn L) g s4
        refine ⟨_, rfl, _, rfl, p, d, gx, g, s4, rfl, hg4, S4, j4, by omega, fun v H5 S5 b5 hv => ?_⟩
        have j5 := JR.but j4 S4 b5
        generalize run (fn L) (vecT MM g) s4 = rv at S5 q mv hv
        refine ⟨_, rfl, _, rfl, _, rfl, _, rfl, p, d, rv.2, rfl, S5, j5, by omega, fun y H6 S6 b6 hy => ⟨by show 4 ≤ sizeLine; decide, fun u hu => ?_⟩⟩
        have hv6 := hv.tk (S5.tk (K := K) b6)
        exact q _ _ (S6.same (Same.new hu)) (((b04.trans b5).trans b6).trans (But.of_same (Same.new hu))) ⟨u, _, rfl, .inl (.inl upd_same), v, y, rfl, hv6.tk (Same.new hu).tk, hy.tk (Same.new hu).tk⟩
    · have e1 : kN 6 = "both" := by decide +kernel
      have e2 : brT reads g ((6 : Nat) : Int) = bindO (vecT MM g) fun v => bindO (vecT MM v) fun u => bindO (restT MM) fun r => retO (.both v u r) := rfl
      rw [e2, run_bindO, run_bindO, run_bindO] at q
      have q : ∀ y H', CoS C (exR L t) p d H' (run (fn L) (restT MM) (run (fn L) (vecT MM (run (fn L) (vecT MM g) s2).1.1) (run (fn L) (vecT MM g) s2).2).2).2 → But p d H H' →
        IsCh K H' y (.both (run (fn L) (vecT MM g) s2).1.1 (run (fn L) (vecT MM (run (fn L) (vecT MM g) s2).1.1) (run (fn L) (vecT MM g) s2).2).1.1 (run (fn L) (restT MM) (run (fn L) (vecT MM (run (fn L) (vecT MM g) s2).1.1) (run (fn L) (vecT MM g) s2).2).2).1.1) → Q y H' := q
      have ei : inV (.str "both") ((["as", "moved"] : List Str).map V.str) = false := inV_not (by decide +kernel)
      rw [e1, ei]
      refine ⟨_, rfl, iteF ?_⟩
      refine ⟨_, rfl, rfl, _, rfl, ite2 (fun cc => absurd (V.str.inj (of_decide_eq_true cc)) (by decide +kernel)) (fun _ => ?_)⟩
      refine ⟨_, rfl, rfl, _, rfl, ite2 (fun cc => absurd (V.str.inj (of_decide_eq_true cc)) (by decide +kernel)) (fun _ => ?_)⟩
      refine ⟨_, rfl, rfl, _, rfl, ite2 (fun _ => ?_) (fun cc => absurd (decide_eq_true rfl) cc)⟩
      have mv1 := vec_m (fn L) g s2
      refine ⟨_, rfl, _, rfl, p, d, gx, g, s2, rfl, hg3, S3, j3, by omega, fun v H5 S5 b5 hv => ?_⟩
      have j5 := JR.but j3 S3 b5
      generalize run (fn L) (vecT MM g) s2 = rv at S5 q mv1 hv
      have mv2 := vec_m (fn L) rv.1.1 rv.2
      refine ⟨_, rfl, _, rfl, p, d, v, rv.1.1, rv.2, rfl, hv, S5, j5, by omega, fun u H6 S6 b6 hu6 => ?_⟩
      have j6 := JR.but j5 S5 b6
      have hv6 := hv.tk (S5.tk (K := K) b6)
      generalize run (fn L) (vecT MM rv.1.1) rv.2 = ru at S6 q mv2 hu6
      refine ⟨_, rfl, _, rfl, _, rfl, _, rfl, p, d, ru.2, rfl, S6, j6, by omega, fun y H7 S7 b7 hy => ⟨by show 4 ≤ sizeLine; decide, fun z hz => ?_⟩⟩
      have k7 := S6.tk (K := K) b7
      exact q _ _ (S7.same (Same.new hz)) ((((b03.trans b5).trans b6).trans b7).trans (But.of_same (Same.new hz))) ⟨z, _, rfl, .inl (.inl upd_same), v, u, y, rfl, (hv6.tk k7).tk (Same.new hz).tk, (hu6.tk k7).tk (Same.new hz).tk, hy.tk (Same.new hz).tk⟩
end
end K4
namespace K4
open PySem PySem.Spec PyProof.Rows L2
variable {P : Program} {w : World} {K : PySem.W.Frag} {mg : Str → Option Value} {base : Heap}
section
variable {C : Addr}
def spRChs (K : PySem.W.Frag) : Sp := fun vs H Q _ => ∃ (t : Addr) (L : List Int) (m reads : Nat), vs = [.ref t, .int ((4 * m : Nat) : Int), .int 4, .int reads] ∧ 1 ≤ m ∧ m ≤ 2 ∧ reads ≤ 2 ∧ SqT K H t (L.map V.int) ∧
  ∀ y H', Same H H' → IsCt K H' y (readAll MM reads m L).1 → Q y H'
theorem sc_rchs : FnScope ["letters", "wide", "tall", "reads", "reader", "vectors", "found", "k", "guess"] ["letters", "wide", "tall", "reads"] (defScope s_read_choices) := ⟨rfl, rfl, rfl, by decide +kernel, rfl, by decide +kernel, by decide +kernel⟩
theorem choice_m (f : Nat → Int) (reads : Nat) (g : Vec) (s : CS Str) : (run f (choiceT MM reads g) s).2.m ≤ s.m + 422 := run_m (choice_len g) f s
theorem none_of_same {H H' : Hp} {a : Addr} (s : Same H H') (h : H' a = none) : H a = none := by
  cases e : H a with
  | none => rfl
  | some o => rw [s _ _ e] at h; cases h
theorem CoS.lst {ex : Nat → List (Str × V)} {p d l : Addr} {H : Hp} {s : CS Str} {xs : List V} {o : HO} (S : CoS C ex p d H s) (h : H l = some (.lst xs)) : CoS C ex p d (upd H l o) s := by
  obtain ⟨⟨⟨dx2, hp2⟩, ok2⟩, kvs, hd2, r2⟩ := S
  exact ⟨⟨⟨dx2, by rw [upd_ne (ne_of hp2 h (fun z => nomatch z))]; exact hp2⟩, ok2⟩, kvs, by rw [upd_ne (ne_of hd2 h (fun z => nomatch z))]; exact hd2, r2⟩
theorem CoS.keep {ex : Nat → List (Str × V)} {p d l : Addr} {H H' : Hp} {s : CS Str} {xs : List V} (S : CoS C ex p d H s) (b : But p d H H') (h : H l = some (.lst xs)) : H' l = some (.lst xs) := by
  obtain ⟨⟨⟨dx2, hp2⟩, _⟩, kvs, hd2, _⟩ := S
  exact b _ _ h (ne_of h hp2 (fun z => nomatch z)) (ne_of h hd2 (fun z => nomatch z))
theorem IsCs.snoc {H : Hp} {xs : List V} {cs : List Ch} {y : V} {c : Ch} (h : IsCs K H xs cs) (hy : IsCh K H y c) : IsCs K H (xs ++ [y]) (cs ++ [c]) := Paired.snoc h hy
theorem d_rchs (B : Bt mg) (D : Df K mg "read_choices" s_read_choices) (gR : mg "Reader" = some (.ref C)) {fi : Addr} {fdi : FuncData} (M : Mk K C fi) (FI : FnOk P w K mg base CX0 2 fi fdi ["self", "letters"] (spRInit K C) ∧ L2.Binds K fdi ["self", "letters"] [])
    (GG : Dk P w K mg base CX0 2 "guessed_vector" ["vectors", "k", "across"] (spGuess K)) (GC : ∀ L t, Dk P w K mg base CX0 8 "read_choice" ["reader", "guess", "reads"] (spRCh K C L t)) (GF : Dk P w K mg base CX0 1 "first_vector" ["choice", "guess"] (spFirst K)) :
    Dk P w K mg base CX0 9 "read_choices" ["letters", "wide", "tall", "reads"] (spRChs K) := by
  refine Dk.mk' D sc_rchs (fun _ _ _ _ _ _ us hl => match us, hl with | [_, _, _, _], _ => rfl) (fun vs H Q E h => ?_) (fun cdv A outer s H vs Q E hr h => ?_)
  · obtain ⟨t, L, m, reads, rfl, _⟩ := h
    rfl
  · obtain ⟨t, L, m, reads, rfl, hm1, hm2, h2, ht, q⟩ := h
    refine ⟨_, pss_cons (ps_par3 (i := 4) (j := 5) (l := 6) (by rfl) sc_rchs.nd rfl rfl rfl (by decide) (by decide) (by decide) rfl rfl rfl (pa_cons (pe_make M FI.1 (hr.mono (by decide)) rfl gR FI.2 .nil pass0 (pa_cons (pv 0) pa_nil)) (pa_cons (pe_lst pa_nil) (pa_cons (pe_lst pa_nil) pa_nil))) (by rfl))
      (pss_cons (ps_for PassesOwn.never rfl (pi_range1 rfl B.range (pa_cons (pe_op op_fdiv (pe_op op_mul (pv 1) (pv 2)) pe_int) pa_nil)) (pg_name (i := 7) sc_rchs.nd rfl (.inl rfl))
        (pss_cons (ps_set (i := 8) sc_rchs.nd rfl (.inl rfl) (pcall GG hr (by decide) rfl (pa_cons (pv 5) (pa_cons (pv 7) (pa_cons (pe_op op_fdiv (pv 1) pe_int) pa_nil)))))
        (pss_cons (ps_expr (pe_bm PySem.F.plainAttrs_list PySem.F.slot_list_append PySem.F.type_list_append mt_append (pv 6) (pa_cons (pcall (GC L t) hr (by decide) rfl (pa_cons (pv 4) (pa_cons (pv 8) (pa_cons (pv 3) pa_nil)))) pa_nil)))
        (pss_one (ps_expr (pe_bm PySem.F.plainAttrs_list PySem.F.slot_list_append PySem.F.type_list_append mt_append (pv 5) (pa_cons (pcall GF hr (by decide) rfl (pa_cons (pe_ix ix_list (pv 6) (pe_un un_neg pe_int) (fun _ _ => rfl)) (pa_cons (pv 8) pa_nil))) pa_nil)))))))
      (pss_one (ps_ret (pT call_tuple_of B.tuple (pa_cons (pv 6) pa_nil))))), ?_⟩
    refine ⟨_, rfl, fun p dx hp hdx hne => ?_⟩
    have sx : Same H (upd (upd H dx (.own p)) p (.ins C dx [])) := (Same.new hdx).more hp
    refine ⟨p, dx, t, L, rfl, upd_same, sx.seqT ht, fun d H2 hd S2 b2 => ⟨rfl, ?_⟩⟩
    have hd0 : H d = none := none_of_same sx hd
    have s2 : Same H H2 := same_but sx b2 hp hd0
    refine ⟨by show 0 ≤ sizeLine; decide, fun vl hvl => ⟨by show 0 ≤ sizeLine; decide, fun fl hfl => ⟨_, _, _, rfl, ?_⟩⟩⟩
    have hvl0 := none_of_same s2 hvl
    have s3 : Same H (upd H2 vl (.lst [])) := s2.more hvl0
    have hfl0 := none_of_same s3 hfl
    have nvf : vl ≠ fl := fun e => by rw [← e, upd_same] at hfl; cases hfl
    have S3 : CoS C (exR L t) p d (upd (upd H2 vl (.lst [])) fl (.lst [])) s0 := (S2.same (Same.new hvl)).same (Same.new hfl)
    have s4 : Same H (upd (upd H2 vl (.lst [])) fl (.lst [])) := s3.more hfl0
    refine ⟨_, rfl, _, rfl, _, _, rfl, rfl, .inl ⟨by omega, by omega⟩, _, _, rfl, rfl, ⟨by decide, by decide⟩, _, rfl, by omega, by omega, ?_⟩
    rw [show (((4 * m : Nat) : Int) * 4 / 16).toNat = m by omega]
    refine for_range (lo := 0) (n := m) (fun i σ H' => ∃ (z1 z2 : Option V) (si : CS Str) (li : Option Vec) (ys fs : List V) (ci : List Ch), σ = [some (.ref t), some (.int ((4 * m : Nat) : Int)), some (.int 4), some (.int reads), some (.ref p), some (.ref vl), some (.ref fl), z1, z2] ∧ Same H H' ∧ CoS C (exR L t) p d H' si ∧ H' vl = some (.lst ys) ∧ H' fl = some (.lst fs) ∧
        (IsCs K H' fs ci ∧ ci.length = i ∧ (i < m → VsAt K H' ys i li) ∧ si.m ≤ 422 * i ∧ ci ++ (run (fn L) (allT MM reads (m - i) li) si).1.1 = (readAll MM reads m L).1)) ⟨none, none, s0, none, [], [], [], rfl, s4, S3, by rw [upd_ne nvf, upd_same], upd_same, .nil, rfl, fun _ => .inl ⟨rfl, rfl, rfl⟩, Nat.zero_le _, rfl⟩ ?_ ?_
    · rintro i σ H' hi ⟨z1, z2, si, li, ys, fs, ci, rfl, sm, Si, hv1, hf1, hcs, hcl, hv, hmi, he⟩
      have jr := sm.seqT ht
      have hfs : fs.length = i := hcs.len.trans hcl
      refine ⟨_, rfl, _, rfl, _, rfl, _, _, rfl, rfl, ⟨by decide, by decide⟩, vl, i, m, li, ys, ?_, hi, hm2, hv1, hv hi, fun g H5 s5 hg => ?_⟩
      · show [V.ref vl, V.int (0 + (i : Nat)), V.int (((4 * m : Nat) : Int) / 4)] = [.ref vl, .int i, .int m]
        rw [show (((4 * m : Nat) : Int) / 4) = (m : Int) by omega, Int.zero_add]
      have S5 := Si.same s5
      have sm5 := sm.trans s5
      have hf5 := s5 _ _ hf1
      refine ⟨_, rfl, .inl ⟨rfl, _, .inl (.inl hf5)⟩, _, rfl, _, rfl, _, rfl, p, d, g, gs li, reads, si, rfl, h2, hg, S5, sm5.seqT ht, by omega, fun y H6 S6 b6 hy => ?_⟩
      have sm6 : Same H H6 := same_but sm5 b6 hp hd0
      have hf6 := S5.keep b6 hf5
      have hv6 := S5.keep b6 (s5 _ _ hv1)
      have k6 := S5.tk (K := K) b6
      have mc := choice_m (fn L) reads (gs li) si
      have hmi1 : m - i = (m - (i + 1)) + 1 := by omega
      rw [hmi1] at he
      unfold allT at he
      rw [run_bindO, run_bindO] at he
      have he : ci ++ (run (fn L) (choiceT MM reads (gs li)) si).1.1 :: (run (fn L) (allT MM reads (m - (i + 1)) (fv (run (fn L) (choiceT MM reads (gs li)) si).1.1 (gs li))) (run (fn L) (choiceT MM reads (gs li)) si).2).1.1 = (readAll MM reads m L).1 := he
      generalize run (fn L) (choiceT MM reads (gs li)) si = rc at S6 hy mc he
      have nf6 : fl ≠ vl := fun e => nvf e.symm
      refine ⟨fl, fs, y, rfl, rfl, hf6, n_size (by omega), ?_⟩
      have kf : TK K H6 (upd H6 fl (.lst (fs ++ [y]))) := TK.upd (by rw [hf6]; trivial)
      have S7 := S6.lst (o := .lst (fs ++ [y])) hf6
      have sm7 : Same H (upd H6 fl (.lst (fs ++ [y]))) := sm6.more hfl0
      have hf7 : upd H6 fl (.lst (fs ++ [y])) fl = some (.lst (fs ++ [y])) := upd_same
      have hv7 : upd H6 fl (.lst (fs ++ [y])) vl = some (.lst ys) := by rw [upd_ne nf6.symm]; exact hv6
      have hy7 : IsCh K (upd H6 fl (.lst (fs ++ [y]))) y rc.1.1 := hy.tk kf
      have hg7 : IsV K (upd H6 fl (.lst (fs ++ [y]))) g (gs li) := (hg.tk k6).tk kf
      have hcs7 : IsCs K (upd H6 fl (.lst (fs ++ [y]))) fs ci := ((hcs.tk s5.tk).tk k6).tk kf
      generalize upd H6 fl (.lst (fs ++ [y])) = H7 at S7 sm7 hf7 hv7 hy7 hg7 hcs7
      refine ⟨_, rfl, .inl ⟨rfl, _, .inl (.inl hv7)⟩, _, rfl, 1, rfl, fl, _, -1, _, rfl, rfl, .inl (.inl hf7), atI_last fs y, _, rfl, y, g, rc.1.1, gs li, rfl, hy7, hg7, fun v H8 s8 hv8 => ?_⟩
      have hys : ys.length < sizeLine := by
        rcases hv hi with ⟨_, h, _⟩ | ⟨_, z, h, _⟩
        · rw [h]; show 0 < sizeLine; decide
        · rw [h]; show 1 < sizeLine; decide
      have hvl8 := s8 _ _ hv7
      have kv : TK K H8 (upd H8 vl (.lst (ys ++ [v]))) := TK.upd (by rw [hvl8]; trivial)
      refine ⟨vl, ys, v, rfl, rfl, hvl8, hys, _, _, rc.2, fv rc.1.1 (gs li), ys ++ [v], fs ++ [y], ci ++ [rc.1.1], rfl, (sm7.trans s8).more hvl0, (S7.same s8).lst hvl8, upd_same, by rw [upd_ne nf6]; exact s8 _ _ hf7, ?_, by rw [List.length_append, hcl]; rfl, ?_, by omega, ?_⟩
      · exact ((hcs7.tk s8.tk).tk kv).snoc ((hy7.tk s8.tk).tk kv)
      · intro hi2
        have hi0 : i = 0 := by omega
        subst hi0
        obtain ⟨_, rfl, _⟩ : 0 = 0 ∧ ys = [] ∧ li = none := by
          rcases hv hi with h | ⟨h, _⟩
          · exact h
          · omega
        exact .inr ⟨rfl, v, rfl, IsOV.tk kv hv8⟩
      · rw [List.append_assoc]
        exact he
    · rintro σ H' ⟨z1, z2, si, li, ys, fs, ci, rfl, sm, Si, hv1, hf1, hcs, hcl, hv, hmi, he⟩
      rw [Nat.sub_self] at he
      have he : ci ++ [] = (readAll MM reads m L).1 := he
      rw [List.append_nil] at he
      rw [← he] at q
      exact ⟨_, rfl, fl, _, rfl, .inl ⟨.inl (.inl hf1), fun u hu => q _ _ (sm.trans (Same.new hu)) ⟨u, fs, rfl, .inl (.inl upd_same), hcs.tk (Same.new hu).tk⟩⟩⟩
end
end K4
namespace K4
open PySem PySem.Spec PyProof.Rows L2
/-! ### an exception that a clause stores in a name of the def, read behind the clause -/
def exK (a : Addr) (cls : Value) (d : Option Addr) : HO := .ext fun h => ∃ oe, h.get? a = some oe ∧ Zc cls d oe ∧ ∃ vs, oe.data = .fields vs
section
variable {X : Cx} {pins : List (Addr × Obj)} {σ : L2.St} {H : Hp} {s : Shared}
theorem exK_ok {P : Program} {w : World} {h : Heap} {a : Addr} {cls : Value} {d : Option Addr} {oe : Obj} (e : h.get? a = some oe) (z : Zc cls d oe) (hd : ∃ vs, oe.data = .fields vs) : ObjOk P w H h a (exK a cls d) :=
  ⟨⟨oe, e, z, hd⟩, ⟨oe, e⟩, fun g1 g2 ⟨o, e1, r⟩ k => ⟨o, k o e1, r⟩⟩
theorem inv_track {a : Addr} {oe : Obj} {cls : Value} {d : Option Addr} (I : Inv X ((a, oe) :: pins) σ H s) (z : Zc cls d oe) (hd : ∃ vs, oe.data = .fields vs) (h0 : ∀ o, X.s_0.heap.get? a = some o → a ∉ X.ex → False) (hp : ∀ p ∈ X.pn ++ pins, p.1 ≠ a) :
    Inv X pins σ (upd H a (exK a cls d)) s := by
  obtain ⟨ha, hn, nL, nF, nc⟩ := I.pin (a, oe) (List.mem_append_right _ List.mem_cons_self)
  have sub : ∀ p ∈ X.pn ++ pins, p ∈ X.pn ++ ((a, oe) :: pins) := fun p h => by
    rcases List.mem_append.mp h with h | h
    · exact List.mem_append_left _ h
    · exact List.mem_append_right _ (List.mem_cons_of_mem _ h)
  have hok : HOk X.prog X.w (upd H a (exK a cls d)) s.heap := I.hok.laidN (fun _ _ q => q) hn (exK_ok ha z hd)
  refine ⟨I.ok, I.os, I.bare, ⟨I.base.keep, I.base.slot, fun b o e n hx => ?_, I.base.there, fun b xs e => ?_, fun b o xs e => ?_, fun b ps e => ?_⟩, I.loc, I.cell, ?_, fun x c e => ?_, fun p hpm => ?_, hok, I.len⟩
  · by_cases e2 : b = a
    · subst e2
      exact (h0 o e hx).elim
    · rw [upd_ne e2]
      exact I.base.free b o e n hx
  · have q := I.base.tups b xs e
    rw [upd_ne (ne_of_none q hn)]
    exact q
  · have q := I.base.frzs b o xs e
    rw [upd_ne (ne_of_none q hn)]
    exact q
  · obtain ⟨more, q⟩ := I.base.tbls b ps e
    exact ⟨more, by rw [upd_ne (ne_of_none q hn)]; exact q⟩
  · rw [upd_ne (Ne.symm nL)]
    exact I.free
  · have hc : c ≠ a := fun z => by
      obtain ⟨v, ob, ho, hdd⟩ := I.cell x c e
      rw [z] at ho
      rw [show s.heap.get? a = some oe from ha] at ho
      cases ho
      exact nc _ hdd
    rw [upd_ne hc]
    exact I.freeC x c e
  · obtain ⟨h1, h2, h3⟩ := I.pin p (sub p hpm)
    exact ⟨h1, by rw [upd_ne (hp p hpm)]; exact h2, h3⟩
theorem unsuiteQ {a : Addr} {q : Addr × Obj} (I : Inv (X.suite a (q :: (X.pn ++ pins))) [] σ H s) (ok : X.Ok) : Inv X (q :: pins) σ H s :=
  ⟨ok, I.os, I.bare, I.base, I.loc, I.cell, I.free, I.freeC, fun p h => I.pin p (by
    rcases List.mem_append.mp h with h | h
    · exact List.mem_append_left _ (List.mem_cons_of_mem _ (List.mem_append_left _ h))
    · rcases List.mem_cons.mp h with h | h
      · rw [h]; exact List.mem_append_left _ List.mem_cons_self
      · exact List.mem_append_left _ (List.mem_cons_of_mem _ (List.mem_append_right _ h))), I.hok, I.len⟩
end
def wK (K : PySem.W.Frag) (c : Value) (i : Nat) (ts : Addr → Value → Option Addr → TS) (Wout : WX) (D : Ends) : WX := fun cls d σ H =>
  ∃ b, PySem.W.exmOne K cls c = some b ∧ (b = true → ∀ a, H a = none → ts a cls d { nx := fun σ' H' => D.nx (σ'.set i none) (upd H' a (exK a cls d)), rt := fun _ _ => False, bk := fun _ _ => False, ct := fun _ _ => False } (σ.set i (some (.ref a))) H) ∧
    (b = false → Wout cls d σ H)
section
variable {X : Cx} {x n : Str} {c : Value} {i : Nat} {body suite : List Stmt} {b₀ : Stmt} {np pos pos' : Pos} {tb : WX → TS} {ts : Addr → Value → Option Addr → TS} {Wout : WX}
theorem ps_try_keep (hs : X.stack = X.env :: X.outer) (hf : X.env.frame = some X.env.locals) (hN : X.N.Nodup) (hi : X.N[i]? = some n) (hln : X.env.kindOf n = some .local) (hc : Names X x c) (tk : Takes X Wout)
    (hb : ∀ (W : WX) (pn : List (Addr × Obj)) (xe : Value → Shared → Prop), Takes (X.tr pn xe) W → PassesOwn (model X.prog X.w) X.A X.env xe → PSs (X.tr pn xe) body (tb W))
    (hsu : ∀ (a : Addr) (oe : Obj) (cls : Value) (d : Option Addr) (pn : List (Addr × Obj)), Zc cls d oe → (∃ vs, oe.data = .fields vs) → PSs (X.suite a ((a, oe) :: pn)) (b₀ :: suite) (ts a cls d)) :
    PS X (.Try body [.ExceptHandler (some (.Name x np)) (some n) (b₀ :: suite) pos'] [] [] pos) (fun D σ H => tb (wK X.K c i ts Wout D) D σ H) := by
  refine ⟨fun pins s σ H D I h => ?_⟩
  have ok := I.ok
  have hfr : X.A.frames = some (X.env :: X.outer) := by rw [ok.frames, hs]
  have hloc : Loc X.env.scope n := .inl hln
  refine wpAny_Try_except ?_
  refine wpAny_mono ((hb (wK X.K c i ts Wout D) (X.pn ++ pins) (fun e s₁ => wpAny (model X.prog X.w) X.A (noteFrame e X.env) (fun _ s₂ => wpAny (model X.prog X.w) X.A (setFlight e none) (fun _ s₃ =>
    wpAny (model X.prog X.w) X.A (handleBy e X.env [.ExceptHandler (some (.Name x np)) (some n) (b₀ :: suite) pos']) (SP X pins D) X.xe s₃) X.xe s₂) X.xe s₁) (fun u s' xx => ?_) PassesOwn.looking).run [] s σ H D (I.toTry _) h) (fun f s1 hsp => ?_) (fun e s1 he => he)
  · -- the catch
    obtain ⟨a, B, sI, pins', σ', H', cls, d, rfl, J', nb, up, sky, na, os, ag, b, hb1, hyes, hno⟩ := xx
    have J : Inv X pins σ' H' sI := J'.ofTry ok
    have sky' : Sky B (X.env :: X.outer) a (Zc cls d) X.env.locals s'.heap := by rw [← hs]; exact sky
    show wpAny (model X.prog X.w) X.A (noteFrame (.ref a) X.env) _ _ _
    refine Sky.land Zc.steady hfr hf sky' fun h3 fl3 up3 => ?_
    have J3 : Inv X pins σ' H' { s' with heap := h3 } := J.landed nb fl3.1 (up.trans up3) os ag
    obtain ⟨oe3, vs3, he3, hz3, hd3⟩ := fl3.there
    have notFr : ∀ {h : Heap} {o : Obj} {vs : Array Value}, h.FunFrames B (X.env :: X.outer) → h.get? a = some o → o.data = .fields vs → a ∉ frs (X.env :: X.outer) := fun {h o vs} ff e dd hm => by
      obtain ⟨_, o', e', hnf⟩ := ff.mem hm
      rw [e] at e'; cases e'
      exact hnf _ dd
    have nfr := notFr fl3.2.2.1 he3 hd3
    have nL : a ≠ X.env.locals := fun z => nfr (List.mem_filterMap.mpr ⟨X.env, List.mem_cons_self, by rw [hf, z]⟩)
    have nF : a ∉ X.fs := fun hm => by
      obtain ⟨e, he, q⟩ := List.mem_filterMap.mp hm
      exact nfr (List.mem_filterMap.mpr ⟨e, List.mem_cons_of_mem _ he, q⟩)
    have S3 := J3.suite he3 hd3 na nL nF
    refine wpAny_handleBy_cons (codeAny_handlers_test ?_) (by intro q; cases q)
    have LT : PySem.W.Looks (model X.prog X.w) h3 (typeOf (.ref a)) cls := fun A Q E s k q => wpAny_typeOf_ref (k _ _ he3) (by rw [hz3.1]; exact q)
    have LM := PySem.W.exm_one (M := model X.prog X.w) (J3.kIn) LT hb1
    have test : ∀ {Q : Value → Shared → Prop} {E : Value → Shared → Prop}, Q c { s' with heap := h3 } → wpAny (model X.prog X.w) (X.A.mark (some (.ref a))) (eval (.Name x np) X.env) Q E { s' with heap := h3 } := fun {Q E} q => by
      obtain ⟨hg, hdbg, hm | ⟨hm, hv, hnn⟩⟩ := hc
      · exact ld_glob (X := X.suite a ((a, oe3) :: (X.pn ++ pins))) S3 hg hm q hdbg
      · exact ld_blt (X := X.suite a ((a, oe3) :: (X.pn ++ pins))) S3 hg hm hv q hnn hdbg
    refine test (LM.here ?_)
    cases b with
    | true =>
      refine codeAny_handlers_suite_as ?_
      refine HandSPX.lands_againZ fl3 fun h4 fl4 up4 => ?_
      have J4 : Inv X pins σ' H' { s' with heap := h4 } := J.landed nb fl4.1 ((up.trans up3).trans up4) os ag
      obtain ⟨oe4, vs4, he4, hz4, hd4⟩ := fl4.there
      have S4 := J4.suite he4 hd4 na nL nF
      refine store_ok (X := X.suite a ((a, oe4) :: (X.pn ++ pins))) (v := .ref a) S4 hN hi hloc rfl (fun s5 S5 => ?_) (.inr hln)
      refine wpAny_mono ((hsu a oe4 cls d (X.pn ++ pins) hz4 ⟨_, hd4⟩).run [] s5 _ H' _ S5 (hyes rfl a na)) (fun f s6 hsp => ?_) (fun _ _ z => False.elim z)
      have hsa : sI.heap.get? a = none := by
        cases e : sI.heap.get? a with
        | none => rfl
        | some o =>
          have q := nb a o e (by rw [hs]; exact nfr)
          rw [fl3.2.1] at q
          cases q
      have h0 : ∀ o, X.s_0.heap.get? a = some o → a ∉ X.ex → False := fun o e hx => by
        obtain ⟨o', q⟩ := J.base.there a o e hx
        rw [hsa] at q
        cases q
      have hpn : ∀ p ∈ X.pn ++ pins, p.1 ≠ a := fun p hp z => by
        obtain ⟨q, _⟩ := J.pin p hp
        rw [z, hsa] at q
        cases q
      cases f with
      | next =>
        obtain ⟨σ6, H6, S6, q6⟩ := hsp
        exact gone_ok (unsuiteQ S6 ok) hN hi hln fun s7 J7 => ⟨_, _, inv_track J7 hz4 ⟨_, hd4⟩ h0 hpn, q6⟩
      | brk =>
        obtain ⟨σ6, H6, S6, q6⟩ := hsp
        exact q6.elim
      | cont =>
        obtain ⟨σ6, H6, S6, q6⟩ := hsp
        exact q6.elim
      | ret u =>
        obtain ⟨v6, σ6, H6, S6, r6, q6⟩ := hsp
        exact q6.elim
    | false =>
      show wpAny _ X.A (handleBy (.ref a) X.env []) _ _ _
      refine wpAny_handleBy_nil ?_
      obtain ⟨k1, k2, k3, oe, vs, T, oT, ts', he, hz, hd, h1, hr⟩ := id fl3
      unfold PySem.passOn
      refine wpAny_bind (wpAny_field he hd h1 ?_)
      rw [if_neg (show ¬ ((Value.ref T == Value.none) = true) from by simp)]
      have fin : wpAny (model X.prog X.w) X.A (setFlight (.ref a) X.env.frame) (fun _ s4 => wpAny (model X.prog X.w) X.A (throw (.ref a) : Sem Flow) (SP X pins D) X.xe s4) X.xe { s' with heap := h3 } := by
        rw [hf]
        refine HandSPX.setFlight_upZ fl3 fun h4 hh4 up4 => wpAny_throw (tk _ _ ?_)
        exact ⟨a, B, sI, pins, σ', H', cls, d, rfl, J, nb, (up.trans up3).trans up4, .inr (.inr (by rw [hs]; exact hh4)), na, os, ag, hno rfl⟩
      first
        | exact wpAny_bind (wpAny_pure (wpAny_bind fin))
        | exact wpAny_bind fin
  · cases f with
    | next =>
      obtain ⟨σ', H', J', q⟩ := hsp
      exact wpAny_execs_nil ⟨σ', H', J'.ofTry ok, q⟩
    | brk =>
      obtain ⟨σ', H', J', q⟩ := hsp
      exact ⟨σ', H', J'.ofTry ok, q⟩
    | cont =>
      obtain ⟨σ', H', J', q⟩ := hsp
      exact ⟨σ', H', J'.ofTry ok, q⟩
    | ret u =>
      obtain ⟨v, σ', H', J', r, q⟩ := hsp
      exact ⟨v, σ', H', J'.ofTry ok, r, q⟩
/-- a.f, a such an exception -/
def tXk (K : PySem.W.Frag) (f : Str) (te : TE) : TE := fun σ H Q => te σ H fun x H1 => ∃ (a C dd : Addr) (fs : List (Str × V)) (v : V), x = .ref a ∧ XfC K C ∧ PySem.W.findIn K (.ref C) f = some none ∧ H1 a = some (exK a (.ref C) (some dd)) ∧ H1 dd = some (.xd fs) ∧ fs.lookup f = some v ∧ Q v H1
theorem pe_xk {e : Expr} {te : TE} {pos : Pos} {f : Str} (he : PE X e te) (hb : attributeBase e f X.env (eval e X.env) = eval e X.env := by rfl) : PE X (.Attribute e f pos) (tXk X.K f te) := by
  refine ⟨fun pins s σ H Q I h => ?_⟩
  refine attr_of hb (thn (he.run pins s σ H _ I h) fun u s1 hh => ?_)
  obtain ⟨x, H1, I1, rx, a, C, dd, fs, v, ex, T, hno, ha, ea, l, q⟩ := hh
  subst ex
  obtain rfl : u = Value.ref a := rx
  obtain ⟨⟨oe, hoe, hz, vs, hd⟩, _⟩ := (show ObjOk X.prog X.w H1 s1.heap a (exK a (.ref C) (some dd)) from I1.hok a _ ha)
  have hx : ObjOk X.prog X.w H1 s1.heap dd (.xd fs) := I1.hok dd _ ea
  obtain ⟨mA, hns, hr⟩ := hx
  obtain ⟨od, ho, hl⟩ := lookIn_ns hns
  obtain ⟨u, hu, ru⟩ := RelO.some_of (v := v) (o := mA f) (by rw [← l]; exact hr f)
  have J : PySem.W.InstAt s1.heap a oe C (some od) := ⟨hoe, hz.1, by unfold PySem.W.notCls; rw [hd] <;> rfl, by rw [hz.2]; exact ho⟩
  exact HandSPX.exc_get I1.kIn J T.ga T.gg T.exC (PySem.W.findObj_own T.hdC hno rfl (by rw [hl, hu])) (handed_of ru) ⟨v, H1, I1.tok _, ru, q⟩
end
end K4
namespace K4
open PySem PySem.Spec PyProof.Rows L2
variable {P : Program} {w : World} {K : PySem.W.Frag} {mg : Str → Option Value} {base : Heap}
/-! ### first_unlike -/
def unl : List Int → List Int → Nat
  | x :: xs, y :: ys => if x = y then unl xs ys + 1 else 0
  | _, _ => 0
theorem unl_drop : ∀ (i : Nat) (xs ys : List Int) (x y : Int), xs[i]? = some x → ys[i]? = some y → unl (xs.drop i) (ys.drop i) = if x = y then unl (xs.drop (i + 1)) (ys.drop (i + 1)) + 1 else 0 := fun i xs ys x y hx hy => by
  obtain ⟨h1, e1⟩ := List.getElem?_eq_some_iff.mp hx
  obtain ⟨h2, e2⟩ := List.getElem?_eq_some_iff.mp hy
  rw [List.drop_eq_getElem_cons h1, List.drop_eq_getElem_cons h2, e1, e2]
  rfl
theorem unl_end {i : Nat} {xs ys : List Int} (h : i = min xs.length ys.length) : unl (xs.drop i) (ys.drop i) = 0 := by
  rcases Nat.le_total xs.length ys.length with h1 | h1
  · rw [List.drop_eq_nil_of_le (as := xs) (by omega)]
    rfl
  · rw [List.drop_eq_nil_of_le (as := ys) (by omega)]
    cases xs.drop i <;> rfl
theorem walk_ez {a b : Addr} {xs ys : List V} : Walk (Itez K a b) (min xs.length ys.length) (fun H => SqT K H a xs ∧ SqT K H b ys) (fun i H v H' => ∃ T U x y, v = .ref U ∧ H T = none ∧ H U = none ∧ T ≠ U ∧ H' = upd (upd H T (.tup [x, y])) U (.tup [.int (i : Nat), .ref T]) ∧ xs[i]? = some x ∧ ys[i]? = some y) :=
  ⟨fun i H hi ⟨h1, h2⟩ => ⟨xs, ys, _, _, h1, h2, List.getElem?_eq_getElem (by omega), List.getElem?_eq_getElem (by omega)⟩, fun H ⟨h1, h2⟩ => ⟨xs, ys, h1, h2, by omega, by omega, by omega⟩,
    fun i H v H' hi ⟨h1, h2⟩ ⟨T, U, x, y, e1, e2, e3, e4, e5, e6, e7⟩ => ⟨T, U, x, y, e1, e2, e3, e4, e5, e6 _ h1, e7 _ h2⟩⟩
def spUnlike (K : PySem.W.Frag) : Sp := fun vs H Q _ => ∃ (a b : Addr) (xs ys : List Int), vs = [.ref a, .ref b] ∧ SqT K H a (xs.map V.int) ∧ SqT K H b (ys.map V.int) ∧ ∀ H', Same H H' → Q (.int (unl xs ys)) H'
theorem sc_unlike : FnScope ["some", "others", "at", "one", "other"] ["some", "others"] (defScope s_first_unlike) := ⟨rfl, rfl, rfl, by decide +kernel, rfl, by decide +kernel, by decide +kernel⟩
theorem d_unlike (B : Bt mg) (D : Df K mg "first_unlike" s_first_unlike) : Dk P w K mg base CX0 1 "first_unlike" ["some", "others"] (spUnlike K) := by
  refine Dk.mk' D sc_unlike (fun _ _ _ _ _ _ us hl => match us, hl with | [_, _], _ => rfl) (fun vs H Q E h => ?_) (fun cdv A outer s H vs Q E hr h => ?_)
  · obtain ⟨a, b, xs, ys, rfl, _⟩ := h
    rfl
  · obtain ⟨a, b, xs, ys, rfl, ha, hb, q⟩ := h
    refine ⟨_, pss_cons (ps_for PassesOwn.never rfl (pi_ez rfl B.enumerate rfl B.zip (pa_cons (pv 0) (pa_cons (pv 1) pa_nil))) (pg_tup (by rfl) (pgs_cons (pg_name (i := 2) sc_unlike.nd rfl (.inl rfl)) (pgs_cons (pg_tup (by rfl) (pgs_cons (pg_name (i := 3) sc_unlike.nd rfl (.inl rfl)) (pgs_cons (pg_name (i := 4) sc_unlike.nd rfl (.inl rfl)) pgs_nil))) pgs_nil)))
        (pss_one (ps_if (pt_cmpR op_ne (pv 3) (pv 4) (nomark _)) (pss_one (ps_ret (pv 2))) pss_nil)))
      (pss_one (ps_ret (pB (call_min2 rfl) B.min (pa_cons (pB call_len B.len (pa_cons (pv 0) pa_nil)) (pa_cons (pB call_len B.len (pa_cons (pv 1) pa_nil)) pa_nil))))), ?_⟩
    refine ⟨_, rfl, _, rfl, a, b, _, _, rfl, ha, hb, for_it (walk_ez (xs := xs.map V.int) (ys := ys.map V.int)) (fun i σ H' => ∃ z1 z2 z3, σ = [some (.ref a), some (.ref b), z1, z2, z3] ∧ Same H H' ∧ unl xs ys = i + unl (xs.drop i) (ys.drop i))
      ⟨none, none, none, rfl, Same.refl H, by simp⟩ ?_ ?_ ?_⟩
    · rintro i σ H' _ ⟨z1, z2, z3, rfl, sm, _⟩
      exact ⟨sm.seqT ha, sm.seqT hb⟩
    · rintro i v σ H' H'' hi ⟨z1, z2, z3, rfl, sm, he⟩ ⟨T, U, x, y, rfl, hT, hU, nTU, rfl, hx, hy⟩
      rw [List.getElem?_map] at hx hy
      obtain ⟨x0, hx0, rfl⟩ := Option.map_eq_some_iff.mp hx
      obtain ⟨y0, hy0, rfl⟩ := Option.map_eq_some_iff.mp hy
      rw [unl_drop i xs ys x0 y0 hx0 hy0] at he
      have s2 : Same H (upd (upd H' T (.tup [.int x0, .int y0])) U (.tup [.int (i : Nat), .ref T])) := (sm.trans (Same.new hT)).trans (Same.new (by rw [upd_ne nTU.symm]; exact hU))
      refine ⟨U, _, rfl, .inl (.inl upd_same), rfl, _, _, rfl, _, _, rfl, ⟨T, _, rfl, .inl (.inl (by rw [upd_ne nTU, upd_same])), rfl, _, _, rfl, _, _, rfl, rfl, ?_⟩⟩
      refine ⟨rfl, ?_⟩
      refine ⟨_, rfl, _, rfl, rfl, _, rfl, ?_⟩
      by_cases c : x0 = y0
      · rw [if_pos c] at he
        rw [decide_eq_true (show V.int x0 = V.int y0 by rw [c])]
        exact iteF ⟨_, _, _, rfl, s2, by omega⟩
      · rw [if_neg c] at he
        rw [decide_eq_false (fun h => c (V.int.inj h))]
        refine iteT ⟨_, rfl, ?_⟩
        have hq := q _ s2
        rw [he] at hq
        exact hq
    · rintro σ H' ⟨z1, z2, z3, rfl, sm, he⟩
      rw [List.length_map, List.length_map] at he
      rw [unl_end rfl] at he
      refine ⟨_, rfl, _, _, rfl, .inr ⟨_, sm.seqT ha, rfl⟩, _, rfl, _, _, rfl, .inr ⟨_, sm.seqT hb, rfl⟩, _, _, rfl, ?_⟩
      have hq := q _ sm
      rw [he] at hq
      rw [List.length_map, List.length_map]
      have em : (if ((ys.length : Nat) : Int) < (xs.length : Nat) then ((ys.length : Nat) : Int) else (xs.length : Nat)) = ((min xs.length ys.length + 0 : Nat) : Int) := by
        split <;> omega
      show Q (.int (if ((ys.length : Nat) : Int) < (xs.length : Nat) then ((ys.length : Nat) : Int) else (xs.length : Nat))) H'
      rw [em]
      exact hq
/-! ### BadLetters(at) -/
section
variable {C : Addr}
def spBL (C : Addr) : Sp := fun vs H Q _ => ∃ (a : Addr) (n : Int), vs = [.ref a, .int n] ∧ H a = some (exo a C none) ∧ ∀ dx, H dx = none → dx ≠ a → Q .non (upd (upd H dx (exd dx [("at", .int n)])) a (exo a C (some dx)))
theorem sc_bl : FnScope ["self", "at"] ["self", "at"] (defScope sm_BadLetters_init) := ⟨rfl, rfl, rfl, by decide +kernel, rfl, by decide +kernel, by decide +kernel⟩
theorem d_bl {C1 : Addr} (T : OexC K C) (hno : PySem.W.findIn K (.ref C) "at" = some none) (R : Cr K C1 "__init__" (.builtin "ValueError.__init__")) (g1 : mg "ShownError" = some (.ref C1)) {f : Addr} {fd : FuncData} (F : FnP K "__init__" "BadLetters.__init__" sm_BadLetters_init f fd) :
    FnOk P w K mg base CX0 1 f fd ["self", "at"] (spBL C) ∧ L2.Binds K fd ["self", "at"] [] := by
  refine ⟨F.ok sc_bl (fun vs H Q E h => ?_) (fun cdv A outer s H vs Q E hr h => ?_), F.bindsN fun _ _ _ _ _ _ us hl => match us, hl with | [_, _], _ => rfl⟩
  · obtain ⟨a, n, rfl, _⟩ := h
    rfl
  · obtain ⟨a, n, rfl, ha, q⟩ := h
    refine ⟨_, PSs.nox (pss_cons (ps_expr (pe_vinit R g1 (pa_cons (pv 0) (pa_cons pe_str pa_nil)))) (pss_one (ps_ost (pv 0) (pv 1)))), ?_⟩
    refine ⟨_, rfl, a, C, _, rfl, by show 1 ≤ 1000; decide, T, ha, ?_⟩
    exact ⟨_, rfl, _, rfl, a, C, rfl, T, hno, .inl ⟨ha, fun dx hd hne => q dx hd hne⟩⟩
end
/-! ### choices_of -/
theorem DkX.mk' {x : Str} {st : Stmt} {N ps : List Str} {k : Nat} {sp : Sp} (D : Df K mg x st) (S : FnScope N ps (defScope st))
    (hb : ∀ (kV doc pm : Value) (an : Option Addr) (cdv ct : Value) (us : List Value), us.length = ps.length → bindArgs (PySem.W.fnOf x x (defArgs st) (defBody st) (defScope st) .none kV doc pm an cdv ct) ⟨us, []⟩ = pure (ps.zip us))
    (len : ∀ vs H Q E, sp vs H Q E → vs.length = ps.length)
    (hbody : ∀ (cdv : Value) (A : Around) (outer : List Env) (s : Shared) (H : Hp) (vs : List V) (Q : VK) (E : XK), Room k (A.deeper (envOfC x (defScope st) s.heap.objs.size (He.ga K x) cdv)) → sp vs H Q E →
      ∃ t, PSs (cxOf (L2.CX P w) P w K mg base N x (defScope st) (He.ga K x) cdv A outer s H E) (defBody st) t ∧ t { nx := fun _ H' => Q .non H', rt := Q } (start N vs) H) : Dk P w K mg base (L2.CX P w) (k + 1) x ps sp := by
  obtain ⟨fd, F⟩ := D.fn
  exact ⟨⟨fd, F.ok S len fun cdv A outer s H vs Q E hr h => hbody cdv A outer s H vs Q E hr h, F.bindsN hb⟩, D.gl, F.kp⟩
section
variable {C : Addr}
def spCof (K : PySem.W.Frag) (C : Addr) : Sp := fun vs H Q E => ∃ (t : Addr) (L : List Int) (m reads : Nat), vs = [.ref t, .int ((4 * m : Nat) : Int), .int 4, .int reads] ∧ 1 ≤ m ∧ m ≤ 2 ∧ reads ≤ 2 ∧ SqT K H t (L.map V.int) ∧ BytesL L ∧ L.length ≤ 10000 ∧
  (ownC MM reads (readAll MM reads m L).1 = L → ∀ y H', Same H H' → IsCt K H' y (readAll MM reads m L).1 → Q y H') ∧
  (ownC MM reads (readAll MM reads m L).1 ≠ L → ∀ d H', H d = none → Same H H' → H' d = some (.xd [("at", .int (unl (ownC MM reads (readAll MM reads m L).1) L))]) → E (.ref C) (some d) H')
theorem sc_cof : FnScope ["letters", "wide", "tall", "reads", "found", "wanted", "one"] ["letters", "wide", "tall", "reads"] (defScope s_choices_of) := ⟨rfl, rfl, rfl, by decide +kernel, rfl, by decide +kernel, by decide +kernel⟩
theorem d_cof (B : Bt mg) (D : Df K mg "choices_of" s_choices_of) (T : OexC K C) (gC : mg "BadLetters" = some (.ref C)) {fI : Addr} {fdI : FuncData} (iC : PySem.W.findIn K (.ref C) "__init__" = some (some (.ref fI))) (tI : PySem.W.typeIn K (.ref fI) = some (.type "function")) (FB : FnOk P w K mg base CX0 1 fI fdI ["self", "at"] (spBL C) ∧ L2.Binds K fdI ["self", "at"] [])
    (GS : Dk P w K mg base CX0 3 "need_size" ["wide", "tall"] spNeedSize) (GI : Dk P w K mg base CX0 1 "is_list" ["thing"] (spIsList K)) (GT : Dk P w K mg base CX0 2 "is_letter" ["thing"] spLetter) (GR : Dk P w K mg base CX0 9 "read_choices" ["letters", "wide", "tall", "reads"] (spRChs K))
    (GL : Dk P w K mg base CX0 7 "letters_of" ["choices", "wide", "tall", "reads"] (spLetOf K)) (GU : Dk P w K mg base CX0 1 "first_unlike" ["some", "others"] (spUnlike K)) : Dk P w K mg base (L2.CX P w) 10 "choices_of" ["letters", "wide", "tall", "reads"] (spCof K C) := by
  refine DkX.mk' D sc_cof (fun _ _ _ _ _ _ us hl => match us, hl with | [_, _, _, _], _ => rfl) (fun vs H Q E h => ?_) (fun cdv A outer s H vs Q E hr h => ?_)
  · obtain ⟨t, L, m, reads, rfl, _⟩ := h
    rfl
  · obtain ⟨t, L, m, reads, rfl, hm1, hm2, h2, ht, hL, hLl, q1, q2⟩ := h
    refine ⟨_, pss_cons (ps_expr (pcall GS hr (by decide) rfl (pa_cons (pv 1) (pa_cons (pv 2) pa_nil))))
      (pss_cons (ps_if (PW.pt (pw_or (pt_not (pt_val (pcall GI hr (by decide) rfl (pa_cons (pv 0) pa_nil)))) (pw_or1 (pt_not (pt_val (pB (cr_all rfl) B.all (pa_cons (pe_lc (own := [("one", 6)]) (g := gName 6) (tt := tYes) rfl sc_cof.nd (pi_tup (pv 0)) (blkOk_by (N := ["letters", "wide", "tall", "reads", "found", "wanted", "one"]) (sc := defScope s_choices_of) (by decide +kernel)) (fun _ _ _ _ _ => pg_name (i := 6) sc_cof.nd rfl (Or.inl rfl)) (fun _ _ _ _ _ => pts_nil)
          (fun _ _ _ _ _ => pcall GT hr (by decide) rfl (pa_cons (pv 6) pa_nil))) pa_nil))))))) pss_never pss_nil)
      (pss_cons (ps_set (i := 4) sc_cof.nd rfl (.inl rfl) (pcall GR hr (by decide) rfl (pa_cons (pv 0) (pa_cons (pv 1) (pa_cons (pv 2) (pa_cons (pv 3) pa_nil))))))
      (pss_cons (ps_set (i := 5) sc_cof.nd rfl (.inl rfl) (pcall GL hr (by decide) rfl (pa_cons (pv 4) (pa_cons (pv 1) (pa_cons (pv 2) (pa_cons (pv 3) pa_nil))))))
      (pss_cons (ps_if (pt_cmpR (op_neK (room64 hr)) (pv 5) (pT call_tup B.tuple (pa_cons (pv 0) pa_nil)) (nomark _)) (pss_one (ps_raise rfl (takes_of rfl rfl rfl rfl) (pmk_oex T iC tI FB.1 (hr.mono (by decide)) FB.2 .nil pass0 rfl gC (pa_cons (pcall GU hr (by decide) rfl (pa_cons (pv 5) (pa_cons (pv 0) pa_nil))) pa_nil)))) pss_nil)
      (pss_one (ps_ret (pv 4))))))), ?_⟩
    refine ⟨_, rfl, _, rfl, _, _, rfl, by omega, by omega, ?_⟩
    refine ⟨_, rfl, t, _, rfl, ht, fun H1 s1 => ⟨_, rfl, iteF ?_⟩⟩
    refine ⟨_, rfl, t, rfl, ⟨_, s1.seqT ht⟩, fun D hD => lc_tup (xs := L.map V.int) (fun i H' => H' D = some (.lst (List.replicate i (V.bl true))) ∧ Same H1 H') ⟨upd_same, Same.new hD⟩ (fun i H' _ p => p.2.seqT (s1.seqT ht)) ?_ ?_⟩
    · rintro i x H' hx ⟨hl, hsm⟩
      have hi : i < L.length := by
        have := (List.getElem?_eq_some_iff.mp hx).1
        rw [List.length_map] at this
        exact this
      rw [List.getElem?_map] at hx
      obtain ⟨z, hz, rfl⟩ := Option.map_eq_some_iff.mp hx
      have hzb := hL z (List.mem_of_getElem? hz)
      exact ⟨rfl, _, rfl, z, rfl, hzb, _, hl, by rw [List.length_replicate]; exact n_size (by omega), by rw [upd_same, trues_push], hsm.more hD⟩
    · rintro H2 ⟨hl, hsm⟩
      refine ⟨D, List.replicate (L.map V.int).length true, rfl, .inl (.inl (by rw [hl, List.map_replicate])), ?_⟩
      rw [trues_all]
      refine ⟨_, rfl, iteF ?_⟩
      have s2 : Same H H2 := s1.trans hsm
      have hb := read_ok (M := MM) (reads := reads) (m := m) hL
      refine ⟨_, rfl, _, rfl, _, rfl, _, rfl, t, L, m, reads, rfl, hm1, hm2, h2, s2.seqT ht, fun y H3 s3 hy => ?_⟩
      refine ⟨_, rfl, _, rfl, _, rfl, _, rfl, y, _, m, reads, rfl, hm1, hm2, h2, hy, hb, fun u H4 hu s4 hu4 => ?_⟩
      have s24 : Same H H4 := (s2.trans s3).trans s4
      have ht4 := s24.seqT ht
      refine ⟨_, rfl, _, rfl, t, _, rfl, ht4, rK (ownC MM reads (readAll MM reads m L).1), rK L, kd_r (.inl (.inl hu4)), kd_r ht4, by rw [rK_depth]; decide, by rw [rK_depth]; decide, _, rfl, ?_⟩
      rw [if_pos rfl]
      by_cases e : ownC MM reads (readAll MM reads m L).1 = L
      · rw [decide_eq_true (show rK (ownC MM reads (readAll MM reads m L).1) = rK L by rw [e])]
        exact iteF ⟨_, rfl, q1 e _ _ s24 (hy.tk s4.tk)⟩
      · rw [decide_eq_false (fun h => e (rK_inj h))]
        refine iteT ⟨_, rfl, _, rfl, u, t, _, _, rfl, .inl (.inl hu4), ht4, fun H5 s5 => ⟨by show 1 ≤ 1000; decide, fun a ha => ?_⟩⟩
        have s25 : Same H H5 := s24.trans s5
        refine ⟨a, _, rfl, upd_same, fun dx hdx hne => ⟨rfl, dx, _, upd_same, by rw [upd_ne hne, upd_same], ?_, ?_⟩⟩
        · rw [upd_ne hne] at hdx; exact hdx
        · have hdx5 : H5 dx = none := by rw [upd_ne hne] at hdx; exact hdx
          refine q2 e dx _ (none_of_same s25 hdx5) (fun b o hbo => ?_) upd_same
          have hb5 := s25 _ _ hbo
          have n1 : b ≠ dx := ne_of_none hb5 hdx5
          have n2 : b ≠ a := ne_of_none hb5 ha
          rw [upd_ne n1, del_ne n2, upd_ne n2, upd_ne n1, upd_ne n2]
          exact hb5
end
end K4
namespace K4
open PySem PySem.Spec PyProof.Rows L2
variable {P : Program} {w : World} {K : PySem.W.Frag} {mg : Str → Option Value} {base : Heap}
/-! ### the law's numbers -/
def st3 (l k c : V) : List (L2.Key × V) := [(.inr "left", l), (.inr "at", k), (.inr "cells", c)]
theorem st3_left {l k c : V} : valV (st3 l k c) (.inr "left") = some l := by kernel_rfl
theorem st3_at {l k c : V} : valV (st3 l k c) (.inr "at") = some k := by kernel_rfl
theorem st3_cells {l k c : V} : valV (st3 l k c) (.inr "cells") = some c := by kernel_rfl
theorem st3_pl {l k c v : V} : putK (st3 l k c) (.inr "left") v = st3 v k c := by kernel_rfl
theorem st3_pa {l k c v : V} : putK (st3 l k c) (.inr "at") v = st3 l v c := by kernel_rfl
theorem st3_new {l k c : V} : mergeK [] (st3 l k c) = st3 l k c := by kernel_rfl
theorem dget_of {H : Hp} {a : Addr} {kvs : List (L2.Key × V)} {k : Str} {v : V} (e : H a = some (.dK kvs)) (h : valV kvs (.inr k) = some v) : DGet H a (.str k) (some v) := h ▸ DGet.k (k := .inr k) e
theorem dput_of {H : Hp} {a : Addr} {kvs kvs' : List (L2.Key × V)} {k : Str} {v : V} (e : H a = some (.dK kvs)) (hl : kvs.length ≤ 1000) (h : putK kvs (.inr k) v = kvs') : DPut H a (.str k) v (upd H a (.dK kvs')) := h ▸ DPut.k (k := .inr k) e (n_size (by omega))
/-- the law's state -/
def St (H : Hp) (st : Addr) : Prop := ∃ (c : Addr) (l k : Int) (cs : List Int), H st = some (.dK (st3 (.int l) (.int k) (.ref c))) ∧ H c = some (.lst (cs.map V.int)) ∧ cs.length ≤ 1000
theorem in_fdiv {X : Cx} : InOp X .FloorDiv (rI CDiv fun i j => .int (i / j)) := fun pins s σ H x y u v Q I rx ry h => iop_fdiv pins s σ H x y u v Q I rx ry h
def spMore : Sp := fun vs H Q _ => ∃ st, vs = [.ref st] ∧ St H st ∧ ∀ (i : Int) H', St H' st → But st st H H' → Q (.int i) H'
theorem sc_more : FnScope ["_law_state", "_law_k", "_law_cells", "_law_cell", "_law_number_here", "_law_primes", "_law_at", "_law_prime", "_law_one"] ["_law_state"] (defScope s_law_more) := ⟨rfl, rfl, rfl, by decide +kernel, rfl, by decide +kernel, by decide +kernel⟩
def primesL : List Int := [2147483629, 2147483587, 2147483579, 2147483563, 2147483549, 2147483543, 2147483497, 2147483489]
theorem primes_ok : ∀ p ∈ primesL, 0 < p ∧ p < 2147483648 := by decide
theorem dp_ints {H : Hp} : ∀ (l : List Int), DpAll K H (l.map V.int) (l.map PyData.int)
  | [] => .nil
  | i :: l => .cons (.int i) (dp_ints l)
theorem ints_lay : ∀ (l : List Int), PyData.canLayAll0 (l.map PyData.int) = true ∧ PyData.depthAll (l.map PyData.int) = 0
  | [] => ⟨rfl, rfl⟩
  | i :: l => by
    obtain ⟨h1, h2⟩ := ints_lay l
    rw [List.map_cons]
    simp only [PyData.canLayAll0, PyData.depthAll, PyData.canLay0, PyData.depth]
    rw [h1, h2]
    exact ⟨rfl, rfl⟩
theorem ints_shaped (l : List Int) : SeqAt.shaped (.list (l.map PyData.int)) = true := by
  obtain ⟨h1, h2⟩ := ints_lay l
  refine Bool.and_eq_true_iff.mpr ⟨h1, decide_eq_true ?_⟩
  show PyData.depthAll (l.map PyData.int) + 1 ≤ 64
  rw [h2]
  decide
theorem ints_nil (l : List Int) : PyData.eqv (.list (l.map PyData.int)) (.list []) = decide (l = []) := by
  cases l with
  | nil => rfl
  | cons a l => rfl
theorem d_more (B : Bt mg) (D : Df K mg "_law_more" s_law_more) : Dk P w K mg base CX0 1 "_law_more" ["_law_state"] spMore := by
  refine Dk.mk' D sc_more (fun _ _ _ _ _ _ us hl => match us, hl with | [_], _ => rfl) (fun vs H Q E h => ?_) (fun cdv A outer s H vs Q E hr h => ?_)
  · obtain ⟨st, rfl, _⟩ := h
    rfl
  · obtain ⟨st, rfl, ⟨c, l, k, cs, hst, hc, hcl⟩, q⟩ := h
    refine ⟨_, pss_cons (ps_set (i := 1) sc_more.nd rfl (.inl rfl) (pe_dget (room1 hr) (pv 0) pe_str (fun _ _ => rfl)))
      (pss_cons (ps_dput (room1 hr) (pv 0) pe_str (pe_op op_add (pv 1) pe_int) (by rfl))
      (pss_cons (ps_set (i := 2) sc_more.nd rfl (.inl rfl) (pe_dget (room1 hr) (pv 0) pe_str (fun _ _ => rfl)))
      (pss_cons (ps_set (i := 3) sc_more.nd rfl (.inl rfl) (pe_ifExp (pt_cmpR (op_neD (room64 hr)) (pv 2) (pe_lst pa_nil) (nomark _)) (pB call_abs B.abs (pa_cons (pe_ix ix_list (pv 2) (pe_op op_mod (pv 1) (pB call_len B.len (pa_cons (pv 2) pa_nil))) (fun _ _ => rfl)) pa_nil)) pe_int))
      (pss_cons (ps_if (PW.pt (pw_and (pt_cmpR op_lt (pv 1) (pB call_len B.len (pa_cons (pv 2) pa_nil)) (nomark _)) (pw_and1 (pt_cmpR op_ge (pv 3) (pe_op op_pow pe_int pe_int) (nomark _))))) (pss_one (ps_ret (pe_op op_sub (pv 3) (pe_op op_pow pe_int pe_int)))) pss_nil)
      (pss_cons (ps_set (i := 4) sc_more.nd rfl (.inl rfl) pe_int)
      (pss_cons (ps_set (i := 5) sc_more.nd rfl (.inl rfl) (pe_lst (pa_cons pe_int (pa_cons pe_int (pa_cons pe_int (pa_cons pe_int (pa_cons pe_int (pa_cons pe_int (pa_cons pe_int (pa_cons pe_int pa_nil))))))))))
      (pss_cons (ps_for PassesOwn.never rfl (pi_enum rfl B.enumerate (pa_cons (pv 5) pa_nil)) (pg_tup (by rfl) (pgs_cons (pg_name (i := 6) sc_more.nd rfl (.inl rfl)) (pgs_cons (pg_name (i := 7) sc_more.nd rfl (.inl rfl)) pgs_nil)))
        (pss_cons (ps_set (i := 8) sc_more.nd rfl (.inl rfl) (pe_op op_mod (pe_op op_add (pe_op op_add (pe_op op_mul (pe_op op_mod (pv 3) (pv 7)) pe_int) (pe_op op_mul pe_int (pe_op op_add (pv 1) pe_int))) (pe_op op_mul (pe_op op_mul pe_int (pv 6)) (pv 6))) (pv 7)))
        (pss_cons (ps_set (i := 8) sc_more.nd rfl (.inl rfl) (pe_op op_mod (pe_op op_add (pe_op op_add (pe_op op_mul (pv 8) (pv 8)) (pe_op op_mul pe_int (pv 1))) (pv 6)) (pv 7)))
        (pss_one (ps_set (i := 4) sc_more.nd rfl (.inl rfl) (pe_op op_add (pe_op op_mul (pv 4) pe_int) (pe_op op_mod (pe_op op_mul (pv 8) (pe_op op_add (pe_op op_add (pv 8) (pv 6)) pe_int)) (pv 7))))))))
      (pss_one (ps_ret (pv 4)))))))))), ?_⟩
    have ncs : c ≠ st := ne_of hc hst (fun z => nomatch z)
    refine ⟨_, rfl, st, _, rfl, dget_of hst st3_at, ?_⟩
    refine ⟨_, rfl, _, _, rfl, rfl, _, rfl, st, _, rfl, dput_of hst (by show 3 ≤ 1000; decide) st3_pa, ?_⟩
    have h1 : upd H st (.dK (st3 (.int l) (.int (k + 1)) (.ref c))) st = some (.dK (st3 (.int l) (.int (k + 1)) (.ref c))) := upd_same
    have h2 : upd H st (.dK (st3 (.int l) (.int (k + 1)) (.ref c))) c = some (.lst (cs.map V.int)) := by rw [upd_ne ncs]; exact hc
    have b1 : But st st H (upd H st (.dK (st3 (.int l) (.int (k + 1)) (.ref c)))) := But.upd1 (But.refl H)
    generalize upd H st (.dK (st3 (.int l) (.int (k + 1)) (.ref c))) = H1 at h1 h2 b1
    refine ⟨_, rfl, st, _, rfl, dget_of h1 st3_cells, ?_⟩
    refine ⟨_, rfl, by show 0 ≤ sizeLine; decide, fun e he => ?_⟩
    have s2 : Same H1 (upd H1 e (.lst [])) := Same.new he
    have e2 : upd H1 e (.lst []) e = some (.lst []) := upd_same
    generalize upd H1 e (.lst []) = H2 at s2 e2
    have h3 := s2 _ _ h1
    have h4 := s2 _ _ h2
    refine ⟨_, _, .lst (.inl (.inl h4)) (dp_ints cs), .lst (xs := []) (.inl (.inl e2)) .nil, ints_shaped cs, by decide, _, rfl, ?_⟩
    rw [ints_nil]
    have stf : ∀ H3, Same H2 H3 → St H3 st := fun H3 s3 => ⟨c, l, k + 1, cs, s3 _ _ h3, s3 _ _ h4, hcl⟩
    have bf : ∀ H3, Same H2 H3 → But st st H H3 := fun H3 s3 => (b1.trans (But.of_same s2)).trans (But.of_same s3)
    refine ite2 (fun cc => ?_) (fun cc => ?_)
    · have hne : cs ≠ [] := fun z => by rw [z] at cc; exact absurd cc (by decide)
      have hpos : 0 < cs.length := List.length_pos_iff.mpr hne
      have hpi : (0 : Int) < (((cs.map V.int).length : Nat) : Int) := by rw [List.length_map]; omega
      have hkm := Int.emod_nonneg k (show (((cs.map V.int).length : Nat) : Int) ≠ 0 by omega)
      have hkl := Int.emod_lt_of_pos k hpi
      obtain ⟨j, hj⟩ : ∃ j : Nat, k % (((cs.map V.int).length : Nat) : Int) = j := ⟨_, (Int.toNat_of_nonneg hkm).symm⟩
      have hjl : j < cs.length := by rw [hj, List.length_map] at hkl; omega
      refine ⟨_, rfl, _, rfl, _, rfl, _, _, rfl, .inl ⟨_, .inl (.inl h4), rfl⟩, _, _, rfl, rfl, hpi, c, _, _, V.int cs[j], rfl, rfl, .inl (.inl h4), by
        rw [hj]
        exact atI_nat (by rw [List.getElem?_map, List.getElem?_eq_getElem hjl]; rfl), _, rfl, ?_⟩
      show gName 3 (V.int (if cs[j] < 0 then -cs[j] else cs[j])) _ _ _
      generalize (if cs[j] < 0 then -cs[j] else cs[j]) = cell
      refine ⟨_, rfl, _, rfl, _, _, rfl, .inl ⟨_, .inl (.inl h4), rfl⟩, _, _, rfl, rfl, _, rfl, ?_⟩
      refine ite2 (fun _ => ?_) (fun _ => ?_)
      · refine ⟨_, rfl, _, _, rfl, rfl, ⟨by decide, by decide, by decide⟩, _, _, rfl, rfl, _, rfl, ite2 (fun _ => ?_) (fun _ => ?_)⟩
        · exact ⟨_, rfl, _, _, rfl, rfl, ⟨by decide, by decide, by decide⟩, _, _, rfl, rfl, q _ _ (stf H2 (Same.refl H2)) (bf H2 (Same.refl H2))⟩
        · refine ⟨by show 8 ≤ sizeLine; decide, fun pl hpl => ?_⟩
          have s3 : Same H2 (upd H2 pl (.lst (primesL.map V.int))) := Same.new hpl
          have h5 : upd H2 pl (.lst (primesL.map V.int)) pl = some (.lst (primesL.map V.int)) := upd_same
          have eh : upd H2 pl (.lst [.int 2147483629, .int 2147483587, .int 2147483579, .int 2147483563, .int 2147483549, .int 2147483543, .int 2147483497, .int 2147483489]) = upd H2 pl (.lst (primesL.map V.int)) := rfl
          rw [eh]
          generalize upd H2 pl (.lst (primesL.map V.int)) = H3 at s3 h5
          refine ⟨_, rfl, pl, _, rfl, .inl (.inl h5), for_it (walk_enum (xs := primesL.map V.int)) (fun i σ H' => ∃ (z1 z2 z3 : Option V) (v : Int), σ = [some (.ref st), some (.int k), some (.ref c), some (.int cell), some (.int v), some (.ref pl), z1, z2, z3] ∧ Same H2 H' ∧ H' pl = some (.lst (primesL.map V.int)))
            ⟨none, none, none, 1, rfl, s3, h5⟩ (fun i σ H' _ ⟨_, _, _, _, _, _, h⟩ => .inl (.inl h)) ?_ ?_⟩
          · rintro i x σ H' H'' hi ⟨z1, z2, z3, v, rfl, sm, hp⟩ ⟨T, y1, y2, rfl, hT, rfl, e1, e2⟩
            obtain rfl : V.int (i : Nat) = y1 := Option.some.inj e1
            have e2 : (primesL.map V.int)[i]? = some y2 := e2
            rw [List.getElem?_map] at e2
            obtain ⟨pr, hpr, rfl⟩ := Option.map_eq_some_iff.mp e2
            obtain ⟨p0, p1⟩ := primes_ok pr (List.mem_of_getElem? hpr)
            have hi8 : i < 8 := by
              have : (primesL.map V.int).length = 8 := rfl
              omega
            have m1 : ∀ z : Int, 0 ≤ z % pr ∧ z % pr < 2147483648 := fun z => ⟨Int.emod_nonneg _ (by omega), by have := Int.emod_lt_of_pos z p0; omega⟩
            refine ⟨T, _, rfl, .inl (.inl upd_same), rfl, _, _, rfl, _, _, rfl, rfl, ?_⟩
            have sT : Same H2 (upd H' T (.tup [.int (i : Nat), .int pr])) := sm.trans (Same.new hT)
            have hp' : upd H' T (.tup [.int (i : Nat), .int pr]) pl = some (.lst (primesL.map V.int)) := by rw [upd_ne (ne_of_none hp hT)]; exact hp
            refine ⟨_, rfl, _, rfl, _, _, rfl, rfl, p0, _, _, rfl, rfl, .inr ⟨by decide, by decide⟩, _, rfl, _, _, rfl, rfl, _, _, rfl, rfl, .inl ⟨by decide, by decide⟩, _, _, rfl, rfl, _, rfl, _, _, rfl, rfl, .inl ⟨by decide, by decide⟩, _, rfl, _, _, rfl, rfl, .inr ⟨by omega, by omega⟩, _, _, rfl, rfl, _, rfl, _, _, rfl, rfl, p0, ?_⟩
            have r1 := m1 (cell % pr * 48271 + 1103515245 * (k + 1) + 40503 * (i : Nat) * (i : Nat))
            show gName 8 (V.int ((cell % pr * 48271 + 1103515245 * (k + 1) + 40503 * (i : Nat) * (i : Nat)) % pr)) _ _ _
            generalize (cell % pr * 48271 + 1103515245 * (k + 1) + 40503 * (i : Nat) * (i : Nat)) % pr = o1 at r1
            refine ⟨_, rfl, _, rfl, _, _, rfl, rfl, .inl ⟨by omega, by omega⟩, _, rfl, _, _, rfl, rfl, .inl ⟨by decide, by decide⟩, _, _, rfl, rfl, _, rfl, _, _, rfl, rfl, _, rfl, _, _, rfl, rfl, p0, ?_⟩
            have r2 := m1 (o1 * o1 + 11 * k + (i : Nat))
            show gName 8 (V.int ((o1 * o1 + 11 * k + (i : Nat)) % pr)) _ _ _
            generalize (o1 * o1 + 11 * k + (i : Nat)) % pr = o2 at r2
            exact ⟨_, rfl, _, _, rfl, rfl, .inr ⟨by decide, by decide⟩, _, rfl, _, rfl, _, rfl, _, _, rfl, rfl, _, _, rfl, rfl, _, _, rfl, rfl, .inl ⟨by omega, by omega⟩, _, rfl, _, _, rfl, rfl, p0, _, _, rfl, rfl, _, _, _, _, rfl, sT, hp'⟩
          · rintro σ H' ⟨z1, z2, z3, v, rfl, sm, hp⟩
            exact ⟨_, rfl, q _ _ (stf H' sm) (bf H' sm)⟩
      · refine ⟨by show 8 ≤ sizeLine; decide, fun pl hpl => ?_⟩
        have s3 : Same H2 (upd H2 pl (.lst (primesL.map V.int))) := Same.new hpl
        have h5 : upd H2 pl (.lst (primesL.map V.int)) pl = some (.lst (primesL.map V.int)) := upd_same
        have eh : upd H2 pl (.lst [.int 2147483629, .int 2147483587, .int 2147483579, .int 2147483563, .int 2147483549, .int 2147483543, .int 2147483497, .int 2147483489]) = upd H2 pl (.lst (primesL.map V.int)) := rfl
        rw [eh]
        generalize upd H2 pl (.lst (primesL.map V.int)) = H3 at s3 h5
        refine ⟨_, rfl, pl, _, rfl, .inl (.inl h5), for_it (walk_enum (xs := primesL.map V.int)) (fun i σ H' => ∃ (z1 z2 z3 : Option V) (v : Int), σ = [some (.ref st), some (.int k), some (.ref c), some (.int cell), some (.int v), some (.ref pl), z1, z2, z3] ∧ Same H2 H' ∧ H' pl = some (.lst (primesL.map V.int)))
          ⟨none, none, none, 1, rfl, s3, h5⟩ (fun i σ H' _ ⟨_, _, _, _, _, _, h⟩ => .inl (.inl h)) ?_ ?_⟩
        · rintro i x σ H' H'' hi ⟨z1, z2, z3, v, rfl, sm, hp⟩ ⟨T, y1, y2, rfl, hT, rfl, e1, e2⟩
          obtain rfl : V.int (i : Nat) = y1 := Option.some.inj e1
          have e2 : (primesL.map V.int)[i]? = some y2 := e2
          rw [List.getElem?_map] at e2
          obtain ⟨pr, hpr, rfl⟩ := Option.map_eq_some_iff.mp e2
          obtain ⟨p0, p1⟩ := primes_ok pr (List.mem_of_getElem? hpr)
          have hi8 : i < 8 := by
            have : (primesL.map V.int).length = 8 := rfl
            omega
          have m1 : ∀ z : Int, 0 ≤ z % pr ∧ z % pr < 2147483648 := fun z => ⟨Int.emod_nonneg _ (by omega), by have := Int.emod_lt_of_pos z p0; omega⟩
          refine ⟨T, _, rfl, .inl (.inl upd_same), rfl, _, _, rfl, _, _, rfl, rfl, ?_⟩
          have sT : Same H2 (upd H' T (.tup [.int (i : Nat), .int pr])) := sm.trans (Same.new hT)
          have hp' : upd H' T (.tup [.int (i : Nat), .int pr]) pl = some (.lst (primesL.map V.int)) := by rw [upd_ne (ne_of_none hp hT)]; exact hp
          refine ⟨_, rfl, _, rfl, _, _, rfl, rfl, p0, _, _, rfl, rfl, .inr ⟨by decide, by decide⟩, _, rfl, _, _, rfl, rfl, _, _, rfl, rfl, .inl ⟨by decide, by decide⟩, _, _, rfl, rfl, _, rfl, _, _, rfl, rfl, .inl ⟨by decide, by decide⟩, _, rfl, _, _, rfl, rfl, .inr ⟨by omega, by omega⟩, _, _, rfl, rfl, _, rfl, _, _, rfl, rfl, p0, ?_⟩
          have r1 := m1 (cell % pr * 48271 + 1103515245 * (k + 1) + 40503 * (i : Nat) * (i : Nat))
          show gName 8 (V.int ((cell % pr * 48271 + 1103515245 * (k + 1) + 40503 * (i : Nat) * (i : Nat)) % pr)) _ _ _
          generalize (cell % pr * 48271 + 1103515245 * (k + 1) + 40503 * (i : Nat) * (i : Nat)) % pr = o1 at r1
          refine ⟨_, rfl, _, rfl, _, _, rfl, rfl, .inl ⟨by omega, by omega⟩, _, rfl, _, _, rfl, rfl, .inl ⟨by decide, by decide⟩, _, _, rfl, rfl, _, rfl, _, _, rfl, rfl, _, rfl, _, _, rfl, rfl, p0, ?_⟩
          have r2 := m1 (o1 * o1 + 11 * k + (i : Nat))
          show gName 8 (V.int ((o1 * o1 + 11 * k + (i : Nat)) % pr)) _ _ _
          generalize (o1 * o1 + 11 * k + (i : Nat)) % pr = o2 at r2
          exact ⟨_, rfl, _, _, rfl, rfl, .inr ⟨by decide, by decide⟩, _, rfl, _, rfl, _, rfl, _, _, rfl, rfl, _, _, rfl, rfl, _, _, rfl, rfl, .inl ⟨by omega, by omega⟩, _, rfl, _, _, rfl, rfl, p0, _, _, rfl, rfl, _, _, _, _, rfl, sT, hp'⟩
        · rintro σ H' ⟨z1, z2, z3, v, rfl, sm, hp⟩
          exact ⟨_, rfl, q _ _ (stf H' sm) (bf H' sm)⟩
    · obtain ⟨cell, hcell⟩ : ∃ cell : Int, 0 = cell := ⟨_, rfl⟩
      show gName 3 (V.int 0) _ _ _
      have e0 : V.int 0 = V.int cell := congrArg V.int hcell
      rw [e0]
      refine ⟨_, rfl, _, rfl, _, _, rfl, .inl ⟨_, .inl (.inl h4), rfl⟩, _, _, rfl, rfl, _, rfl, ?_⟩
      refine ite2 (fun _ => ?_) (fun _ => ?_)
      · refine ⟨_, rfl, _, _, rfl, rfl, ⟨by decide, by decide, by decide⟩, _, _, rfl, rfl, _, rfl, ite2 (fun _ => ?_) (fun _ => ?_)⟩
        · exact ⟨_, rfl, _, _, rfl, rfl, ⟨by decide, by decide, by decide⟩, _, _, rfl, rfl, q _ _ (stf H2 (Same.refl H2)) (bf H2 (Same.refl H2))⟩
        · refine ⟨by show 8 ≤ sizeLine; decide, fun pl hpl => ?_⟩
          have s3 : Same H2 (upd H2 pl (.lst (primesL.map V.int))) := Same.new hpl
          have h5 : upd H2 pl (.lst (primesL.map V.int)) pl = some (.lst (primesL.map V.int)) := upd_same
          have eh : upd H2 pl (.lst [.int 2147483629, .int 2147483587, .int 2147483579, .int 2147483563, .int 2147483549, .int 2147483543, .int 2147483497, .int 2147483489]) = upd H2 pl (.lst (primesL.map V.int)) := rfl
          rw [eh]
          generalize upd H2 pl (.lst (primesL.map V.int)) = H3 at s3 h5
          refine ⟨_, rfl, pl, _, rfl, .inl (.inl h5), for_it (walk_enum (xs := primesL.map V.int)) (fun i σ H' => ∃ (z1 z2 z3 : Option V) (v : Int), σ = [some (.ref st), some (.int k), some (.ref c), some (.int cell), some (.int v), some (.ref pl), z1, z2, z3] ∧ Same H2 H' ∧ H' pl = some (.lst (primesL.map V.int)))
            ⟨none, none, none, 1, rfl, s3, h5⟩ (fun i σ H' _ ⟨_, _, _, _, _, _, h⟩ => .inl (.inl h)) ?_ ?_⟩
          · rintro i x σ H' H'' hi ⟨z1, z2, z3, v, rfl, sm, hp⟩ ⟨T, y1, y2, rfl, hT, rfl, e1, e2⟩
            obtain rfl : V.int (i : Nat) = y1 := Option.some.inj e1
            have e2 : (primesL.map V.int)[i]? = some y2 := e2
            rw [List.getElem?_map] at e2
            obtain ⟨pr, hpr, rfl⟩ := Option.map_eq_some_iff.mp e2
            obtain ⟨p0, p1⟩ := primes_ok pr (List.mem_of_getElem? hpr)
            have hi8 : i < 8 := by
              have : (primesL.map V.int).length = 8 := rfl
              omega
            have m1 : ∀ z : Int, 0 ≤ z % pr ∧ z % pr < 2147483648 := fun z => ⟨Int.emod_nonneg _ (by omega), by have := Int.emod_lt_of_pos z p0; omega⟩
            refine ⟨T, _, rfl, .inl (.inl upd_same), rfl, _, _, rfl, _, _, rfl, rfl, ?_⟩
            have sT : Same H2 (upd H' T (.tup [.int (i : Nat), .int pr])) := sm.trans (Same.new hT)
            have hp' : upd H' T (.tup [.int (i : Nat), .int pr]) pl = some (.lst (primesL.map V.int)) := by rw [upd_ne (ne_of_none hp hT)]; exact hp
            refine ⟨_, rfl, _, rfl, _, _, rfl, rfl, p0, _, _, rfl, rfl, .inr ⟨by decide, by decide⟩, _, rfl, _, _, rfl, rfl, _, _, rfl, rfl, .inl ⟨by decide, by decide⟩, _, _, rfl, rfl, _, rfl, _, _, rfl, rfl, .inl ⟨by decide, by decide⟩, _, rfl, _, _, rfl, rfl, .inr ⟨by omega, by omega⟩, _, _, rfl, rfl, _, rfl, _, _, rfl, rfl, p0, ?_⟩
            have r1 := m1 (cell % pr * 48271 + 1103515245 * (k + 1) + 40503 * (i : Nat) * (i : Nat))
            show gName 8 (V.int ((cell % pr * 48271 + 1103515245 * (k + 1) + 40503 * (i : Nat) * (i : Nat)) % pr)) _ _ _
            generalize (cell % pr * 48271 + 1103515245 * (k + 1) + 40503 * (i : Nat) * (i : Nat)) % pr = o1 at r1
            refine ⟨_, rfl, _, rfl, _, _, rfl, rfl, .inl ⟨by omega, by omega⟩, _, rfl, _, _, rfl, rfl, .inl ⟨by decide, by decide⟩, _, _, rfl, rfl, _, rfl, _, _, rfl, rfl, _, rfl, _, _, rfl, rfl, p0, ?_⟩
            have r2 := m1 (o1 * o1 + 11 * k + (i : Nat))
            show gName 8 (V.int ((o1 * o1 + 11 * k + (i : Nat)) % pr)) _ _ _
            generalize (o1 * o1 + 11 * k + (i : Nat)) % pr = o2 at r2
            exact ⟨_, rfl, _, _, rfl, rfl, .inr ⟨by decide, by decide⟩, _, rfl, _, rfl, _, rfl, _, _, rfl, rfl, _, _, rfl, rfl, _, _, rfl, rfl, .inl ⟨by omega, by omega⟩, _, rfl, _, _, rfl, rfl, p0, _, _, rfl, rfl, _, _, _, _, rfl, sT, hp'⟩
          · rintro σ H' ⟨z1, z2, z3, v, rfl, sm, hp⟩
            exact ⟨_, rfl, q _ _ (stf H' sm) (bf H' sm)⟩
      · refine ⟨by show 8 ≤ sizeLine; decide, fun pl hpl => ?_⟩
        have s3 : Same H2 (upd H2 pl (.lst (primesL.map V.int))) := Same.new hpl
        have h5 : upd H2 pl (.lst (primesL.map V.int)) pl = some (.lst (primesL.map V.int)) := upd_same
        have eh : upd H2 pl (.lst [.int 2147483629, .int 2147483587, .int 2147483579, .int 2147483563, .int 2147483549, .int 2147483543, .int 2147483497, .int 2147483489]) = upd H2 pl (.lst (primesL.map V.int)) := rfl
        rw [eh]
        generalize upd H2 pl (.lst (primesL.map V.int)) = H3 at s3 h5
        refine ⟨_, rfl, pl, _, rfl, .inl (.inl h5), for_it (walk_enum (xs := primesL.map V.int)) (fun i σ H' => ∃ (z1 z2 z3 : Option V) (v : Int), σ = [some (.ref st), some (.int k), some (.ref c), some (.int cell), some (.int v), some (.ref pl), z1, z2, z3] ∧ Same H2 H' ∧ H' pl = some (.lst (primesL.map V.int)))
          ⟨none, none, none, 1, rfl, s3, h5⟩ (fun i σ H' _ ⟨_, _, _, _, _, _, h⟩ => .inl (.inl h)) ?_ ?_⟩
        · rintro i x σ H' H'' hi ⟨z1, z2, z3, v, rfl, sm, hp⟩ ⟨T, y1, y2, rfl, hT, rfl, e1, e2⟩
          obtain rfl : V.int (i : Nat) = y1 := Option.some.inj e1
          have e2 : (primesL.map V.int)[i]? = some y2 := e2
          rw [List.getElem?_map] at e2
          obtain ⟨pr, hpr, rfl⟩ := Option.map_eq_some_iff.mp e2
          obtain ⟨p0, p1⟩ := primes_ok pr (List.mem_of_getElem? hpr)
          have hi8 : i < 8 := by
            have : (primesL.map V.int).length = 8 := rfl
            omega
          have m1 : ∀ z : Int, 0 ≤ z % pr ∧ z % pr < 2147483648 := fun z => ⟨Int.emod_nonneg _ (by omega), by have := Int.emod_lt_of_pos z p0; omega⟩
          refine ⟨T, _, rfl, .inl (.inl upd_same), rfl, _, _, rfl, _, _, rfl, rfl, ?_⟩
          have sT : Same H2 (upd H' T (.tup [.int (i : Nat), .int pr])) := sm.trans (Same.new hT)
          have hp' : upd H' T (.tup [.int (i : Nat), .int pr]) pl = some (.lst (primesL.map V.int)) := by rw [upd_ne (ne_of_none hp hT)]; exact hp
          refine ⟨_, rfl, _, rfl, _, _, rfl, rfl, p0, _, _, rfl, rfl, .inr ⟨by decide, by decide⟩, _, rfl, _, _, rfl, rfl, _, _, rfl, rfl, .inl ⟨by decide, by decide⟩, _, _, rfl, rfl, _, rfl, _, _, rfl, rfl, .inl ⟨by decide, by decide⟩, _, rfl, _, _, rfl, rfl, .inr ⟨by omega, by omega⟩, _, _, rfl, rfl, _, rfl, _, _, rfl, rfl, p0, ?_⟩
          have r1 := m1 (cell % pr * 48271 + 1103515245 * (k + 1) + 40503 * (i : Nat) * (i : Nat))
          show gName 8 (V.int ((cell % pr * 48271 + 1103515245 * (k + 1) + 40503 * (i : Nat) * (i : Nat)) % pr)) _ _ _
          generalize (cell % pr * 48271 + 1103515245 * (k + 1) + 40503 * (i : Nat) * (i : Nat)) % pr = o1 at r1
          refine ⟨_, rfl, _, rfl, _, _, rfl, rfl, .inl ⟨by omega, by omega⟩, _, rfl, _, _, rfl, rfl, .inl ⟨by decide, by decide⟩, _, _, rfl, rfl, _, rfl, _, _, rfl, rfl, _, rfl, _, _, rfl, rfl, p0, ?_⟩
          have r2 := m1 (o1 * o1 + 11 * k + (i : Nat))
          show gName 8 (V.int ((o1 * o1 + 11 * k + (i : Nat)) % pr)) _ _ _
          generalize (o1 * o1 + 11 * k + (i : Nat)) % pr = o2 at r2
          exact ⟨_, rfl, _, _, rfl, rfl, .inr ⟨by decide, by decide⟩, _, rfl, _, rfl, _, rfl, _, _, rfl, rfl, _, _, rfl, rfl, _, _, rfl, rfl, .inl ⟨by omega, by omega⟩, _, rfl, _, _, rfl, rfl, p0, _, _, rfl, rfl, _, _, _, _, rfl, sT, hp'⟩
        · rintro σ H' ⟨z1, z2, z3, v, rfl, sm, hp⟩
          exact ⟨_, rfl, q _ _ (stf H' sm) (bf H' sm)⟩
/-! _law_next, _law_pick, _law_begin -/
def spNext : Sp := fun vs H Q _ => ∃ (st : Addr) (most : Int), vs = [.ref st, .int most] ∧ 0 < most ∧ most < 1000000 ∧ St H st ∧ ∀ (i : Int) H', 0 ≤ i → i < most → St H' st → But st st H H' → Q (.int i) H'
theorem sc_next : FnScope ["_law_state", "_law_most", "_law_digit"] ["_law_state", "_law_most"] (defScope s_law_next) := ⟨rfl, rfl, rfl, by decide +kernel, rfl, by decide +kernel, by decide +kernel⟩
theorem d_next (D : Df K mg "_law_next" s_law_next) (G : Dk P w K mg base CX0 1 "_law_more" ["_law_state"] spMore) : Dk P w K mg base CX0 2 "_law_next" ["_law_state", "_law_most"] spNext := by
  refine Dk.mk' D sc_next (fun _ _ _ _ _ _ us hl => match us, hl with | [_, _], _ => rfl) (fun vs H Q E h => ?_) (fun cdv A outer s H vs Q E hr h => ?_)
  · obtain ⟨st, most, rfl, _⟩ := h
    rfl
  · obtain ⟨st, most, rfl, h0, h1, ⟨c, l, k, cs, hst, hc, hcl⟩, q⟩ := h
    refine ⟨_, pss_cons (ps_if (pt_cmpR op_eq (pe_dget (room1 hr) (pv 0) pe_str (fun _ _ => rfl)) pe_int (nomark _)) (pss_one (ps_dput (room1 hr) (pv 0) pe_str (pcall G hr (by decide) rfl (pa_cons (pv 0) pa_nil)) (by rfl))) pss_nil)
      (pss_cons (ps_set (i := 2) sc_next.nd rfl (.inl rfl) (pe_op op_mod (pe_dget (room1 hr) (pv 0) pe_str (fun _ _ => rfl)) (pv 1)))
      (pss_cons (ps_daug (room1 hr) (pv 0) pe_str (pv 1) in_fdiv (fun _ _ _ => rfl)) (pss_one (ps_ret (pv 2))))), ?_⟩
    have nm : ∀ z : Int, 0 ≤ z % most ∧ z % most < most := fun z => ⟨Int.emod_nonneg _ (by omega), Int.emod_lt_of_pos z h0⟩
    refine ⟨_, rfl, st, _, rfl, dget_of hst st3_left, rfl, _, rfl, ite2 (fun _ => ?_) (fun _ => ?_)⟩
    · refine ⟨_, rfl, st, rfl, ⟨c, l, k, cs, hst, hc, hcl⟩, fun i H1 ⟨c1, l1, k1, cs1, hst1, hc1, hcl1⟩ b1 => ?_⟩
      have nc1 : c1 ≠ st := ne_of hc1 hst1 (fun z => nomatch z)
      refine ⟨_, rfl, st, _, rfl, dput_of hst1 (by show 3 ≤ 1000; decide) st3_pl, ?_⟩
      have h2 : upd H1 st (.dK (st3 (.int i) (.int k1) (.ref c1))) st = some (.dK (st3 (.int i) (.int k1) (.ref c1))) := upd_same
      have h3 : upd H1 st (.dK (st3 (.int i) (.int k1) (.ref c1))) c1 = some (.lst (cs1.map V.int)) := by rw [upd_ne nc1]; exact hc1
      have b2 : But st st H (upd H1 st (.dK (st3 (.int i) (.int k1) (.ref c1)))) := But.upd1 b1
      generalize upd H1 st (.dK (st3 (.int i) (.int k1) (.ref c1))) = H2 at h2 h3 b2
      refine ⟨_, rfl, st, _, rfl, dget_of h2 st3_left, _, rfl, _, _, rfl, rfl, h0, ?_⟩
      refine ⟨_, rfl, st, _, rfl, dget_of h2 st3_left, _, rfl, _, _, rfl, rfl, ⟨h0, by omega⟩, _, dput_of h2 (by show 3 ≤ 1000; decide) st3_pl, ?_⟩
      exact ⟨_, rfl, q _ _ (nm _).1 (nm _).2 ⟨c1, _, k1, cs1, upd_same, by rw [upd_ne nc1]; exact h3, hcl1⟩ (But.upd1 b2)⟩
    · have nc : c ≠ st := ne_of hc hst (fun z => nomatch z)
      refine ⟨_, rfl, st, _, rfl, dget_of hst st3_left, _, rfl, _, _, rfl, rfl, h0, ?_⟩
      refine ⟨_, rfl, st, _, rfl, dget_of hst st3_left, _, rfl, _, _, rfl, rfl, ⟨h0, by omega⟩, _, dput_of hst (by show 3 ≤ 1000; decide) st3_pl, ?_⟩
      exact ⟨_, rfl, q _ _ (nm _).1 (nm _).2 ⟨c, _, k, cs, upd_same, by rw [upd_ne nc]; exact hc, hcl⟩ (But.upd1 (But.refl H))⟩
theorem St.same {H H' : Hp} {st : Addr} (h : St H st) (s : Same H H') : St H' st := by
  obtain ⟨c, l, k, cs, h1, h2, h3⟩ := h
  exact ⟨c, l, k, cs, s _ _ h1, s _ _ h2, h3⟩
def spPick (K : PySem.W.Frag) : Sp := fun vs H Q _ => ∃ (st a : Addr) (xs : List V), vs = [.ref st, .ref a] ∧ SqL K H a xs ∧ (∃ o, H a = some (.lst o)) ∧ 0 < xs.length ∧ xs.length < 1000 ∧ St H st ∧ ∀ (x : V) H', x ∈ xs → St H' st → But st st H H' → Q x H'
theorem sc_pick : FnScope ["_law_state", "_law_some"] ["_law_state", "_law_some"] (defScope s_law_pick) := ⟨rfl, rfl, rfl, by decide +kernel, rfl, by decide +kernel, by decide +kernel⟩
theorem d_pick (B : Bt mg) (D : Df K mg "_law_pick" s_law_pick) (G : Dk P w K mg base CX0 2 "_law_next" ["_law_state", "_law_most"] spNext) : Dk P w K mg base CX0 3 "_law_pick" ["_law_state", "_law_some"] (spPick K) := by
  refine Dk.mk' D sc_pick (fun _ _ _ _ _ _ us hl => match us, hl with | [_, _], _ => rfl) (fun vs H Q E h => ?_) (fun cdv A outer s H vs Q E hr h => ?_)
  · obtain ⟨st, a, xs, rfl, _⟩ := h
    rfl
  · obtain ⟨st, a, xs, rfl, hs, ⟨o, ho⟩, h0, h1, S, q⟩ := h
    refine ⟨_, pss_one (ps_ret (pe_ix ix_list (pv 1) (pcall G hr (by decide) rfl (pa_cons (pv 0) (pa_cons (pB call_len B.len (pa_cons (pv 1) pa_nil)) pa_nil))) (fun _ _ => rfl))), ?_⟩
    have ho2 : SqL K H a xs := hs
    refine ⟨_, rfl, _, rfl, _, rfl, _, _, rfl, .inl ⟨_, hs, rfl⟩, st, _, rfl, by omega, by omega, S, fun i H1 hi0 hi1 S1 b1 => ?_⟩
    obtain ⟨j, hj⟩ : ∃ j : Nat, i = j := ⟨i.toNat, by omega⟩
    subst hj
    have hjl : j < xs.length := by omega
    have nst : a ≠ st := by
      obtain ⟨c, l, k, cs, e1, _⟩ := S
      exact ne_of ho e1 (fun z => nomatch z)
    have hs1 : SqL K H1 a xs := by
      rcases hs with (h | ⟨ob, h⟩) | h
      · exact .inl (.inl (b1 _ _ h nst nst))
      · exact .inl (.inr ⟨ob, b1 _ _ h nst nst⟩)
      · exact .inr h
    exact ⟨a, xs, j, xs[j], rfl, rfl, hs1, atI_nat (List.getElem?_eq_getElem hjl), q _ _ (List.getElem_mem hjl) S1 b1⟩
def spBegin (K : PySem.W.Frag) : Sp := fun vs H Q _ => ∃ (a : Addr) (cs : List Int), vs = [.ref a] ∧ SqL K H a (cs.map V.int) ∧ cs.length ≤ 1000 ∧ ∀ st H', H st = none → Same H H' → St H' st → Q (.ref st) H'
theorem sc_begin : FnScope ["_law_script"] ["_law_script"] (defScope s_law_begin) := ⟨rfl, rfl, rfl, by decide +kernel, rfl, by decide +kernel, by decide +kernel⟩
theorem d_begin (B : Bt mg) (D : Df K mg "_law_begin" s_law_begin) : Dk P w K mg base CX0 1 "_law_begin" ["_law_script"] (spBegin K) := by
  refine Dk.mk' D sc_begin (fun _ _ _ _ _ _ us hl => match us, hl with | [_], _ => rfl) (fun vs H Q E h => ?_) (fun cdv A outer s H vs Q E hr h => ?_)
  · obtain ⟨a, cs, rfl, _⟩ := h
    rfl
  · obtain ⟨a, cs, rfl, hs, hl, q⟩ := h
    refine ⟨_, pss_one (ps_ret (pe_disp (pps_cons pe_str pe_int (pps_cons pe_str pe_int (pps_cons pe_str (pT call_list_of B.list (pa_cons (pv 0) pa_nil)) pps_nil))) rfl rfl (by simp) (by decide))), ?_⟩
    refine fun p hp => ⟨_, rfl, a, cs.map V.int, rfl, .inl ?_, fun l hl' => ⟨?_, st3 (.int 0) (.int 0) (.ref l), rfl, by show 3 ≤ 15; decide, ?_⟩⟩
    · have sp : Same H (upd H p (.dK [])) := Same.new hp
      rcases hs with (h | ⟨ob, h⟩) | h
      · exact .inl (.inl (sp _ _ h))
      · exact .inl (.inr ⟨ob, sp _ _ h⟩)
      · exact .inr h
    · rw [upd_ne (fun e => by rw [← e, upd_same] at hl'; cases hl'), upd_same]
    · have npl : p ≠ l := fun e => by rw [← e, upd_same] at hl'; cases hl'
      rw [st3_new]
      refine q p _ hp ((((Same.new hp).trans (Same.new hl')).more hp)) ⟨l, 0, 0, cs, upd_same, by rw [upd_ne npl.symm, upd_same], hl⟩
end K4
namespace K4
open PySem PySem.Spec PyProof.Rows L2
variable {P : Program} {w : World} {K : PySem.W.Frag} {mg : Str → Option Value} {base : Heap}
/-! ### the law's coder -/
def lc7 (l w n d t c o : V) : List (L2.Key × V) := [(.inr "low", l), (.inr "wide", w), (.inr "n", n), (.inr "names", d), (.inr "letters", t), (.inr "code", c), (.inr "odd", o)]
section
variable {l w n d t c o v : V}
theorem lc_low : valV (lc7 l w n d t c o) (.inr "low") = some l := by kernel_rfl
theorem lc_wide : valV (lc7 l w n d t c o) (.inr "wide") = some w := by kernel_rfl
theorem lc_n : valV (lc7 l w n d t c o) (.inr "n") = some n := by kernel_rfl
theorem lc_names : valV (lc7 l w n d t c o) (.inr "names") = some d := by kernel_rfl
theorem lc_letters : valV (lc7 l w n d t c o) (.inr "letters") = some t := by kernel_rfl
theorem lc_code : valV (lc7 l w n d t c o) (.inr "code") = some c := by kernel_rfl
theorem lc_odd : valV (lc7 l w n d t c o) (.inr "odd") = some o := by kernel_rfl
theorem lc_plow : putK (lc7 l w n d t c o) (.inr "low") v = lc7 v w n d t c o := by kernel_rfl
theorem lc_pwide : putK (lc7 l w n d t c o) (.inr "wide") v = lc7 l v n d t c o := by kernel_rfl
theorem lc_pn : putK (lc7 l w n d t c o) (.inr "n") v = lc7 l w v d t c o := by kernel_rfl
theorem lc_pcode : putK (lc7 l w n d t c o) (.inr "code") v = lc7 l w n d t v o := by kernel_rfl
theorem lc_podd : putK (lc7 l w n d t c o) (.inr "odd") v = lc7 l w n d t c v := by kernel_rfl
theorem lc_new : mergeK [] (lc7 l w n d t c o) = lc7 l w n d t c o := by kernel_rfl
end
theorem seven : ∀ {l w n d t c o : V}, (lc7 l w n d t c o).length ≤ 1000 := fun {_ _ _ _ _ _ _} => by show 7 ≤ 1000; decide
structure LM (K : PySem.W.Frag) (L : List Int) (t p d : Addr) (H : Hp) (l w n c : V) (ch : Str → Int) (m : Nat) (odd : Bool) : Prop where
  ne : p ≠ d
  hp : H p = some (.dK (lc7 l w n (.ref d) (.ref t) c (.bl odd)))
  hd : ∃ kvs, H d = some (.dK kvs) ∧ ChD kvs ch ∧ kvs.length ≤ m
  ht : SqT K H t (L.map V.int)
theorem LM.put {L : List Int} {t p d : Addr} {H : Hp} {l w n c : V} {ch : Str → Int} {m : Nat} {odd : Bool} (M : LM K L t p d H l w n c ch m odd) (l' w' n' c' : V) (odd' : Bool) :
    LM K L t p d (upd H p (.dK (lc7 l' w' n' (.ref d) (.ref t) c' (.bl odd')))) l' w' n' c' ch m odd' :=
  ⟨M.ne, upd_same, by rw [upd_ne M.ne.symm]; exact M.hd, seqT_upd M.hp (fun _ z => nomatch z) (fun _ _ z => nomatch z) M.ht⟩
theorem LM.same {L : List Int} {t p d : Addr} {H H' : Hp} {l w n c : V} {ch : Str → Int} {m : Nat} {odd : Bool} (M : LM K L t p d H l w n c ch m odd) (s : Same H H') : LM K L t p d H' l w n c ch m odd := by
  obtain ⟨kvs, h1, h2, h3⟩ := M.hd
  exact ⟨M.ne, s _ _ M.hp, ⟨kvs, s _ _ h1, h2, h3⟩, s.seqT M.ht⟩
/-- the law's coder at work -/
structure LC (K : PySem.W.Frag) (L : List Int) (t p d : Addr) (H : Hp) (s : CS Str) (odd : Bool) : Prop extends LM K L t p d H (.int s.low) (.int s.wide) (.int s.n) (.int (codeAt (fn L) (s.n + 4))) s.ch s.m odd where
  ok : Ok s
theorem LC.same {L : List Int} {t p d : Addr} {H H' : Hp} {s : CS Str} {odd : Bool} (C : LC K L t p d H s odd) (e : Same H H') : LC K L t p d H' s odd := ⟨C.toLM.same e, C.ok⟩
theorem fn_in {L : List Int} {k : Nat} (h : k < L.length) : fn L k = L[k] := by unfold fn; rw [List.getD_eq_getElem?_getD, List.getElem?_eq_getElem h]; rfl
theorem fn_out {L : List Int} {k : Nat} (h : ¬ k < L.length) : fn L k = 0 := by unfold fn; rw [List.getD_eq_getElem?_getD, List.getElem?_eq_none (by omega)]; rfl
def spCoder (K : PySem.W.Frag) : Sp := fun vs H Q _ => ∃ (t : Addr) (L : List Int), vs = [.ref t] ∧ SqT K H t (L.map V.int) ∧ ∀ p d H', H p = none → H d = none → Same H H' → LC K L t p d H' s0 false → Q (.ref p) H'
theorem sc_coder : FnScope ["_law_letters", "_law_found", "_law_at"] ["_law_letters"] (defScope s_law_coder) := ⟨rfl, rfl, rfl, by decide +kernel, rfl, by decide +kernel, by decide +kernel⟩
theorem d_coder (B : Bt mg) (D : Df K mg "_law_coder" s_law_coder) : Dk P w K mg base CX0 1 "_law_coder" ["_law_letters"] (spCoder K) := by
  refine Dk.mk' D sc_coder (fun _ _ _ _ _ _ us hl => match us, hl with | [_], _ => rfl) (fun vs H Q E h => ?_) (fun cdv A outer s H vs Q E hr h => ?_)
  · obtain ⟨t, L, rfl, _⟩ := h
    rfl
  · obtain ⟨t, L, rfl, ht, q⟩ := h
    refine ⟨_, pss_cons (ps_set (i := 1) sc_coder.nd rfl (.inl rfl) (pe_disp (pps_cons pe_str pe_int (pps_cons pe_str (pe_op op_pow pe_int pe_int) (pps_cons pe_str pe_int (pps_cons pe_str pe_dnewK (pps_cons pe_str (pv 0) (pps_cons pe_str pe_int (pps_cons pe_str pe_bl pps_nil))))))) rfl rfl (by simp) (by decide)))
      (pss_cons (ps_if (pt_cmpR op_notN (pv 0) pe_non (nomark _)) (pss_one (ps_for PassesOwn.never rfl (pi_range1 rfl B.range (pa_cons pe_int pa_nil)) (pg_name (i := 2) sc_coder.nd rfl (.inl rfl))
        (pss_one (ps_dput (room1 hr) (pv 1) pe_str (pe_op op_add (pe_op op_mul (pe_dget (room1 hr) (pv 1) pe_str (fun _ _ => rfl)) pe_int) (pe_ifExp (pt_cmpR op_lt (pv 2) (pB call_len B.len (pa_cons (pv 0) pa_nil)) (nomark _)) (pe_ix ix_tup (pv 0) (pv 2) (fun _ _ => rfl)) pe_int)) (by rfl))))) pss_nil)
      (pss_one (ps_ret (pv 1)))), ?_⟩
    refine fun p hp => ⟨_, _, rfl, rfl, ⟨by decide, by decide, by decide⟩, fun d hd => ⟨_, rfl, ?_⟩⟩
    have npd : p ≠ d := fun e => by rw [← e, upd_same] at hd; cases hd
    have hd' : H d = none := by rw [upd_ne npd.symm] at hd; exact hd
    refine ⟨by rw [upd_ne npd, upd_same], lc7 (.int 0) (.int (2 ^ 32)) (.int 0) (.ref d) (.ref t) (.int 0) (.bl false), rfl, by show 7 ≤ 15; decide, ?_⟩
    rw [lc_new]
    have e0 : Same H (upd (upd (upd H p (.dK [])) d (.dK [])) p (.dK (lc7 (.int 0) (.int (2 ^ 32)) (.int 0) (.ref d) (.ref t) (.int 0) (.bl false)))) := fun a o ha => by
      have n1 := ne_of_none ha hp
      rw [upd_ne n1, upd_ne (ne_of_none ha hd'), upd_ne n1]
      exact ha
    have M0 : LM K L t p d (upd (upd (upd H p (.dK [])) d (.dK [])) p (.dK (lc7 (.int 0) (.int (2 ^ 32)) (.int 0) (.ref d) (.ref t) (.int 0) (.bl false)))) (.int 0) (.int (2 ^ 32)) (.int 0) (.int 0) (fun _ => 1024) 0 false :=
      ⟨npd, upd_same, ⟨[], by rw [upd_ne npd.symm, upd_same], fun _ => rfl, Nat.le_refl _⟩, e0.seqT ht⟩
    show gName 1 (V.ref p) _ (upd (upd (upd H p (.dK [])) d (.dK [])) p (.dK (lc7 (.int 0) (.int (2 ^ 32)) (.int 0) (.ref d) (.ref t) (.int 0) (.bl false)))) _
    generalize upd (upd (upd H p (.dK [])) d (.dK [])) p (.dK (lc7 (.int 0) (.int (2 ^ 32)) (.int 0) (.ref d) (.ref t) (.int 0) (.bl false))) = H1 at e0 M0
    refine ⟨_, rfl, rfl, _, rfl, ?_⟩
    refine iteT ⟨4, rfl, by decide, by decide, for_range (lo := 0) (n := 4) (fun i σ H' => ∃ z, σ = [some (.ref t), some (.ref p), z] ∧ Same H H' ∧ LM K L t p d H' (.int 0) (.int (2 ^ 32)) (.int 0) (.int (codeAt (fn L) i)) (fun _ => 1024) 0 false) ⟨none, rfl, e0, M0⟩ ?_ ?_⟩
    · rintro i σ H' hi ⟨z, rfl, em, M⟩
      have ej : (0 : Int) + (i : Nat) = (i : Int) := by omega
      refine ⟨_, rfl, p, _, rfl, dget_of M.hp lc_code, _, _, rfl, rfl, small_mul, ?_⟩
      refine ⟨_, rfl, _, rfl, _, _, rfl, .inr ⟨_, M.ht, rfl⟩, _, _, rfl, rfl, _, rfl, ?_⟩
      have fin : LM K L t p d (upd H' p (.dK (lc7 (.int 0) (.int (2 ^ 32)) (.int 0) (.ref d) (.ref t) (.int (codeAt (fn L) (i + 1))) (.bl false)))) (.int 0) (.int (2 ^ 32)) (.int 0) (.int (codeAt (fn L) (i + 1))) (fun _ => 1024) 0 false := M.put _ _ _ _ _
      have fsm : Same H (upd H' p (.dK (lc7 (.int 0) (.int (2 ^ 32)) (.int 0) (.ref d) (.ref t) (.int (codeAt (fn L) (i + 1))) (.bl false)))) := fun a o ha => by
        rw [upd_ne (ne_of_none ha hp)]
        exact em a o ha
      refine ite2 (fun cc => ?_) (fun cc => ?_)
      · have c1 : i < L.length := by
          have := of_decide_eq_true cc
          rw [List.length_map] at this
          omega
        refine ⟨_, rfl, _, rfl, t, _, _, V.int L[i], rfl, rfl, M.ht, by
          rw [ej]
          exact atI_nat (by rw [List.getElem?_map, List.getElem?_eq_getElem c1]; rfl), _, _, rfl, rfl, _, rfl, p, _, rfl, dput_of M.hp seven lc_pcode, ?_⟩
        rw [← fn_in c1]
        exact ⟨_, rfl, fsm, fin⟩
      · have c1 : ¬ i < L.length := fun z => cc (decide_eq_true (by rw [List.length_map]; omega))
        refine ⟨_, _, rfl, rfl, _, rfl, p, _, rfl, dput_of M.hp seven lc_pcode, ?_⟩
        have e : codeAt (fn L) (i + 1) = codeAt (fn L) i * 256 + 0 := by
          show codeAt (fn L) i * 256 + fn L i = _
          rw [fn_out c1]
        rw [e] at fsm
        have fin' := fin
        rw [e] at fin'
        exact ⟨_, rfl, fsm, by rw [e]; exact fin'⟩
    · rintro σ H' ⟨z, rfl, em, M⟩
      exact ⟨_, rfl, q p d H' hp hd' em ⟨M, s0_ok⟩⟩
end K4
namespace K4
open PySem PySem.Spec PyProof.Rows L2
variable {P : Program} {w : World} {K : PySem.W.Frag} {mg : Str → Option Value} {base : Heap}
/-! ### the law's sign -/
def nmV : Option Str → V
  | none => .non
  | some x => .str x
def spSign (K : PySem.W.Frag) : Sp := fun vs H Q _ => ∃ (L : List Int) (t p d : Addr) (o : Option Str) (s : CS Str) (odd : Bool), vs = [.ref p, nmV o, .non] ∧ LC K L t p d H s odd ∧ s.m ≤ 9000 ∧
  ∀ H', LC K L t p d H' (step o (rd (fn L) o s) s) odd → But p d H H' → Q (.int (b2i (rd (fn L) o s))) H'
theorem sc_sign : FnScope ["_law_coder_here", "_law_name", "_law_value", "_law_p", "_law_part", "_law_more_here", "_law_some", "_law_at"] ["_law_coder_here", "_law_name", "_law_value"] (defScope s_law_sign) := ⟨rfl, rfl, rfl, by decide +kernel, rfl, by decide +kernel, by decide +kernel⟩
theorem chNew_law (c : Int) (b : Bool) : (if V.int (b2i b) = V.int 1 then c + (0 - c / 32) else c + (2048 - c) / 32) = chNew c b := by
  cases b
  · rfl
  · rw [if_pos (show V.int (b2i true) = V.int 1 from rfl)]
    show _ = c - c / 32
    omega
theorem ChD.put {kvs : List (L2.Key × V)} {s : CS Str} (h : ChD kvs s.ch) (x : Str) (b : Bool) : ChD (putK kvs (Sum.inr x) (.int (chNew (s.ch x) b))) (chUp (some x) b s) := fun y => by
  rw [valV_put]
  show _ = V.int (if y = x then chNew (s.ch x) b else s.ch y)
  by_cases e : y = x
  · rw [if_pos (by rw [e]), if_pos e]; rfl
  · rw [if_neg (fun z => e (Sum.inr.inj z)), if_neg e]
    exact h y
theorem d_sign (B : Bt mg) (D : Df K mg "_law_sign" s_law_sign) : Dk P w K mg base CX0 1 "_law_sign" ["_law_coder_here", "_law_name", "_law_value"] (spSign K) := by
  refine Dk.mk' D sc_sign (fun _ _ _ _ _ _ us hl => match us, hl with | [_, _, _], _ => rfl) (fun vs H Q E h => ?_) (fun cdv A outer s H vs Q E hr h => ?_)
  · obtain ⟨L, t, p, d, o, s, odd, rfl, _⟩ := h
    rfl
  · obtain ⟨L, t, p, d, o, s1, odd, rfl, C, hm, q⟩ := h
    obtain ⟨tw, hW, hw⟩ : ∃ tw, PSs (cxOf CX0 P w K mg base ["_law_coder_here", "_law_name", "_law_value", "_law_p", "_law_part", "_law_more_here", "_law_some", "_law_at"] "_law_sign" (defScope s_law_sign) (He.ga K "_law_sign") cdv A outer s H E).nox ((defBody s_law_sign).drop 6) tw ∧
        ∀ (b : Bool) (z1 z3 z4 z5 : Option V) (H1 : Hp), rd (fn L) o s1 = b → But p d H H1 → LM K L t p d H1 (.int (low1 o b s1)) (.int (wide1 o b s1)) (.int s1.n) (.int (codeAt (fn L) (s1.n + 4))) (chUp o b s1) (s1.m + 1) odd →
          tw { nx := fun _ H' => Q .non H', rt := Q } [some (.ref p), z1, some (.int (b2i b)), z3, z4, z5, none, none] H1 := by
      refine ⟨_, pss_cons (ps_while PassesOwn.never (pt_cmpR op_lt (pe_dget (room1 hr) (pv 0) pe_str (fun _ _ => rfl)) (pe_op op_pow pe_int pe_int) (nomark _))
          (pss_cons (ps_daug (room1 hr) (pv 0) pe_str pe_int in_mul (fun _ _ _ => rfl)) (pss_cons (ps_daug (room1 hr) (pv 0) pe_str pe_int in_mul (fun _ _ _ => rfl)) (pss_cons (ps_daug (room1 hr) (pv 0) pe_str pe_int in_add (fun _ _ _ => rfl))
            (pss_one (ps_if (pt_cmpR op_notN (pe_dget (room1 hr) (pv 0) pe_str (fun _ _ => rfl)) pe_non (nomark _))
              (pss_cons (ps_par (i := 6) (j := 7) (by rfl) sc_sign.nd rfl rfl (by decide) rfl rfl (pa_cons (pe_dget (room1 hr) (pv 0) pe_str (fun _ _ => rfl)) (pa_cons (pe_op op_add (pe_dget (room1 hr) (pv 0) pe_str (fun _ _ => rfl)) pe_int) pa_nil)) (by rfl))
              (pss_one (ps_dput (room1 hr) (pv 0) pe_str (pe_op op_add (pe_op op_mul (pe_dget (room1 hr) (pv 0) pe_str (fun _ _ => rfl)) pe_int) (pe_ifExp (pt_cmpR op_lt (pv 7) (pB call_len B.len (pa_cons (pv 6) pa_nil)) (nomark _)) (pe_ix ix_tup (pv 6) (pv 7) (fun _ _ => rfl)) pe_int)) (by rfl)))) pss_nil))))))
        (pss_one (ps_ret (pv 2))), ?_⟩
      intro b z1 z3 z4 z5 H1 hb b1 M
      rw [hb] at q
      have hok := C.ok.step o b
      refine ⟨fun m σ H' => ∃ z6 z7, σ = [some (.ref p), z1, some (.int (b2i b)), z3, z4, z5, z6, z7] ∧ ((m = 1 ∧ H' = H1 ∧ z6 = none ∧ z7 = none) ∨ (m = 0 ∧ But p d H H' ∧ LC K L t p d H' (step o b s1) odd)), ⟨1, none, none, rfl, .inl ⟨rfl, rfl, rfl, rfl⟩⟩, ?_⟩
      rintro m σ H' ⟨z6, z7, rfl, ⟨rfl, rfl, rfl, rfl⟩ | ⟨rfl, b2, C2⟩⟩
      · refine ⟨_, rfl, p, _, rfl, dget_of M.hp lc_wide, _, _, rfl, rfl, ⟨by decide, by decide, by decide⟩, _, _, rfl, rfl, _, rfl, ite2 (fun cc => ?_) (fun cc => ?_)⟩
        · have c1 : wide1 o b s1 < 16777216 := of_decide_eq_true cc
          have es : step o b s1 = ⟨low1 o b s1 * 256, wide1 o b s1 * 256, s1.n + 1, s1.m + 1, chUp o b s1⟩ := if_pos c1
          refine ⟨fun σ' H'' => (∃ z6 z7, σ' = [some (.ref p), z1, some (.int (b2i b)), z3, z4, z5, z6, z7]) ∧ But p d H H'' ∧ LC K L t p d H'' (step o b s1) odd, fun σ' H'' ⟨⟨z6, z7, e1⟩, e2, e3⟩ => ⟨0, by decide, z6, z7, e1, .inr ⟨rfl, e2, e3⟩⟩, ?_⟩
          refine ⟨_, rfl, p, _, rfl, dget_of M.hp lc_low, _, _, rfl, rfl, small_mul, _, dput_of M.hp seven lc_plow, ?_⟩
          have M2 := M.put (.int (low1 o b s1 * 256)) (.int (wide1 o b s1)) (.int s1.n) (.int (codeAt (fn L) (s1.n + 4))) odd
          have b2 := b1.upd1 (o := .dK (lc7 (.int (low1 o b s1 * 256)) (.int (wide1 o b s1)) (.int s1.n) (.ref d) (.ref t) (.int (codeAt (fn L) (s1.n + 4))) (.bl odd)))
          refine ⟨_, rfl, p, _, rfl, dget_of M2.hp lc_wide, _, _, rfl, rfl, small_mul, _, dput_of M2.hp seven lc_pwide, ?_⟩
          have M3 := M2.put (.int (low1 o b s1 * 256)) (.int (wide1 o b s1 * 256)) (.int s1.n) (.int (codeAt (fn L) (s1.n + 4))) odd
          have b3 := b2.upd1 (o := .dK (lc7 (.int (low1 o b s1 * 256)) (.int (wide1 o b s1 * 256)) (.int s1.n) (.ref d) (.ref t) (.int (codeAt (fn L) (s1.n + 4))) (.bl odd)))
          refine ⟨_, rfl, p, _, rfl, dget_of M3.hp lc_n, _, _, rfl, rfl, _, dput_of M3.hp seven lc_pn, ?_⟩
          have M4 := M3.put (.int (low1 o b s1 * 256)) (.int (wide1 o b s1 * 256)) (.int (s1.n + 1)) (.int (codeAt (fn L) (s1.n + 4))) odd
          have b4 := b3.upd1 (o := .dK (lc7 (.int (low1 o b s1 * 256)) (.int (wide1 o b s1 * 256)) (.int (s1.n + 1)) (.ref d) (.ref t) (.int (codeAt (fn L) (s1.n + 4))) (.bl odd)))
          refine ⟨_, rfl, p, _, rfl, dget_of M4.hp lc_letters, rfl, _, rfl, iteT ?_⟩
          refine ⟨_, rfl, p, _, rfl, dget_of M4.hp lc_letters, _, rfl, p, _, rfl, dget_of M4.hp lc_n, _, _, rfl, rfl, _, _, rfl, ?_⟩
          refine ⟨_, rfl, p, _, rfl, dget_of M4.hp lc_code, _, _, rfl, rfl, small_mul, ?_⟩
          refine ⟨_, rfl, _, rfl, _, _, rfl, .inr ⟨_, M4.ht, rfl⟩, _, _, rfl, rfl, _, rfl, ?_⟩
          have ej : (s1.n : Int) + 1 + 3 = ((s1.n + 4 : Nat) : Int) := by omega
          have ek : ((s1.n : Int) + 1) = ((s1.n + 1 : Nat) : Int) := by omega
          have fin : ∀ c : Int, c = fn L (s1.n + 4) → LC K L t p d (upd (upd (upd (upd H' p (.dK (lc7 (.int (low1 o b s1 * 256)) (.int (wide1 o b s1)) (.int s1.n) (.ref d) (.ref t) (.int (codeAt (fn L) (s1.n + 4))) (.bl odd)))) p (.dK (lc7 (.int (low1 o b s1 * 256)) (.int (wide1 o b s1 * 256)) (.int s1.n) (.ref d) (.ref t) (.int (codeAt (fn L) (s1.n + 4))) (.bl odd)))) p (.dK (lc7 (.int (low1 o b s1 * 256)) (.int (wide1 o b s1 * 256)) (.int (s1.n + 1)) (.ref d) (.ref t) (.int (codeAt (fn L) (s1.n + 4))) (.bl odd)))) p (.dK (lc7 (.int (low1 o b s1 * 256)) (.int (wide1 o b s1 * 256)) (.int (s1.n + 1)) (.ref d) (.ref t) (.int (codeAt (fn L) (s1.n + 4) * 256 + c)) (.bl odd)))) (step o b s1) odd := fun c hc => by
            have M5 := M4.put (.int (low1 o b s1 * 256)) (.int (wide1 o b s1 * 256)) (.int (s1.n + 1)) (.int (codeAt (fn L) (s1.n + 4) * 256 + c)) odd
            refine ⟨?_, hok⟩
            rw [es]
            rw [hc] at M5 ⊢
            exact M5
          have fb := fun c : Int => b4.upd1 (o := .dK (lc7 (.int (low1 o b s1 * 256)) (.int (wide1 o b s1 * 256)) (.int (s1.n + 1)) (.ref d) (.ref t) (.int (codeAt (fn L) (s1.n + 4) * 256 + c)) (.bl odd)))
          refine ite2 (fun cc => ?_) (fun cc => ?_)
          · have c2 : s1.n + 4 < L.length := by
              have := of_decide_eq_true cc
              rw [List.length_map] at this
              omega
            refine ⟨_, rfl, _, rfl, t, _, _, V.int L[s1.n + 4], rfl, rfl, M4.ht, by
              rw [ej]
              exact atI_nat (by rw [List.getElem?_map, List.getElem?_eq_getElem c2]; rfl), _, _, rfl, rfl, _, rfl, p, _, rfl, dput_of M4.hp seven lc_pcode, ?_⟩
            exact ⟨⟨_, _, rfl⟩, fb _, fin _ (fn_in c2).symm⟩
          · have c2 : ¬ s1.n + 4 < L.length := fun z => cc (decide_eq_true (by rw [List.length_map]; omega))
            refine ⟨_, _, rfl, rfl, _, rfl, p, _, rfl, dput_of M4.hp seven lc_pcode, ?_⟩
            exact ⟨⟨_, _, rfl⟩, fb _, fin _ (fn_out c2).symm⟩
        · have c1 : ¬ wide1 o b s1 < 16777216 := fun z => cc (decide_eq_true z)
          have es : step o b s1 = ⟨low1 o b s1, wide1 o b s1, s1.n, s1.m + 1, chUp o b s1⟩ := if_neg c1
          refine ⟨_, rfl, q H' ?_ b1⟩
          refine ⟨?_, hok⟩
          rw [es]
          exact M
      · have := C2.ok.lo
        refine ⟨_, rfl, p, _, rfl, dget_of C2.hp lc_wide, _, _, rfl, rfl, ⟨by decide, by decide, by decide⟩, _, _, rfl, rfl, _, rfl, ite2 (fun cc => ?_) (fun _ => ⟨_, rfl, q H' C2 b2⟩)⟩
        have c1 : (step o b s1).wide < 16777216 := of_decide_eq_true cc
        omega
    refine ⟨_, pss_cons (ps_set (i := 3) sc_sign.nd rfl (.inl rfl) (pe_ifExp (pt_cmpR op_isN (pv 1) pe_non (nomark _)) pe_int (pe_dget2 (room1 hr) (pe_dget (room1 hr) (pv 0) pe_str (fun _ _ => rfl)) (pv 1) pe_int ⟨rfl, rfl, rfl, rfl⟩)))
      (pss_cons (ps_set (i := 4) sc_sign.nd rfl (.inl rfl) (pe_op op_mul (pe_op op_fdiv (pe_dget (room1 hr) (pv 0) pe_str (fun _ _ => rfl)) pe_int) (pv 3)))
      (pss_cons (ps_if (pt_cmpR op_isN (pv 2) pe_non (nomark _)) (pss_one (ps_set (i := 2) sc_sign.nd rfl (.inl rfl) (pT call_int1 B.int (pa_cons (pe_cmpR op_ge (pe_dget (room1 hr) (pv 0) pe_str (fun _ _ => rfl)) (pe_op op_add (pe_dget (room1 hr) (pv 0) pe_str (fun _ _ => rfl)) (pv 4)) (nomark _)) pa_nil)))) pss_nil)
      (pss_cons (ps_daug (room1 hr) (pv 0) pe_str (pe_op op_mul (pv 4) (pv 2)) in_add (fun _ _ _ => rfl))
      (pss_cons (ps_dput (room1 hr) (pv 0) pe_str (pe_ifExp (pt_cmpR op_eq (pv 2) pe_int (nomark _)) (pe_op op_sub (pe_dget (room1 hr) (pv 0) pe_str (fun _ _ => rfl)) (pv 4)) (pv 4)) (by rfl))
      (pss_cons (ps_if (pt_cmpR op_notN (pv 1) pe_non (nomark _)) (pss_cons (ps_set (i := 5) sc_sign.nd rfl (.inl rfl) (pe_ifExp (pt_cmpR op_eq (pv 2) pe_int (nomark _)) (pe_op op_sub pe_int (pe_op op_fdiv (pv 3) pe_int)) (pe_op op_fdiv (pe_op op_sub pe_int (pv 3)) pe_int)))
          (pss_one (ps_dput (room1 hr) (pe_dget (room1 hr) (pv 0) pe_str (fun _ _ => rfl)) (pv 1) (pe_op op_add (pv 3) (pv 5)) (by rfl)))) pss_nil)
        hW))))), ?_⟩
    obtain ⟨kvs, hkd, hkc, hkl⟩ := C.hd
    have hmul := mul_ok C.ok (prob o s1)
    have hpo := prob_ok C.ok o
    generalize hb : rd (fn L) o s1 = b at hw q
    rcases o with _ | x
    · refine ⟨_, rfl, rfl, _, rfl, iteT ?_⟩
      refine ⟨_, rfl, p, _, rfl, dget_of C.hp lc_wide, _, _, rfl, rfl, ⟨by decide, by decide⟩, _, rfl, _, _, rfl, rfl, hmul, ?_⟩
      refine ⟨_, rfl, rfl, _, rfl, iteT ?_⟩
      refine ⟨_, rfl, p, _, rfl, dget_of C.hp lc_code, _, rfl, p, _, rfl, dget_of C.hp lc_low, _, rfl, _, _, rfl, rfl, _, _, rfl, rfl, .inr ⟨_, rfl, ?_⟩⟩
      have hrd : decide (s1.low + part none s1 ≤ codeAt (fn L) (s1.n + 4)) = b := hb
      have ei : (if decide (s1.low + part none s1 ≤ codeAt (fn L) (s1.n + 4)) = true then (1 : Int) else 0) = b2i b := by rw [hrd]; rfl
      show gName 2 (V.int (if decide (s1.low + part none s1 ≤ codeAt (fn L) (s1.n + 4)) = true then (1 : Int) else 0)) _ _ _
      rw [ei]
      refine ⟨_, rfl, p, _, rfl, dget_of C.hp lc_low, _, rfl, _, rfl, _, _, rfl, rfl, .inr ⟨by cases b <;> decide, by cases b <;> decide⟩, _, _, rfl, rfl, _, dput_of C.hp seven lc_plow, ?_⟩
      have el : (s1.low + s1.wide / 2048 * prob none s1 * b2i b) = low1 none b s1 := by
        cases b
        · show s1.low + _ * 0 = s1.low
          omega
        · show s1.low + _ * 1 = s1.low + part none s1
          rw [Int.mul_one]
          rfl
      have M2 := C.toLM.put (.int (s1.low + s1.wide / 2048 * prob none s1 * b2i b)) (.int s1.wide) (.int s1.n) (.int (codeAt (fn L) (s1.n + 4))) odd
      have b2 : But p d H _ := But.upd1 (o := .dK (lc7 (.int (s1.low + s1.wide / 2048 * prob none s1 * b2i b)) (.int s1.wide) (.int s1.n) (.ref d) (.ref t) (.int (codeAt (fn L) (s1.n + 4))) (.bl odd))) (But.refl H)
      have M3 := M2.put (.int (s1.low + s1.wide / 2048 * prob none s1 * b2i b)) (.int (wide1 none b s1)) (.int s1.n) (.int (codeAt (fn L) (s1.n + 4))) odd
      have b3 := b2.upd1 (o := .dK (lc7 (.int (s1.low + s1.wide / 2048 * prob none s1 * b2i b)) (.int (wide1 none b s1)) (.int s1.n) (.ref d) (.ref t) (.int (codeAt (fn L) (s1.n + 4))) (.bl odd)))
      cases b
      · refine ⟨_, rfl, rfl, _, rfl, iteF ?_⟩
        refine ⟨_, rfl, _, rfl, p, _, rfl, dput_of M2.hp seven lc_pwide, ?_⟩
        refine ⟨_, rfl, rfl, _, rfl, iteF ?_⟩
        refine hw false _ _ _ _ _ rfl b3 ?_
        rw [← el]
        obtain ⟨e1, e2, ⟨k, e3, e4, e5⟩, e6⟩ := M3
        exact ⟨e1, e2, ⟨k, e3, e4, Nat.le_succ_of_le e5⟩, e6⟩
      · refine ⟨_, rfl, rfl, _, rfl, iteT ?_⟩
        refine ⟨_, rfl, p, _, rfl, dget_of M2.hp lc_wide, _, rfl, _, _, rfl, rfl, _, rfl, p, _, rfl, dput_of M2.hp seven lc_pwide, ?_⟩
        refine ⟨_, rfl, rfl, _, rfl, iteF ?_⟩
        refine hw true _ _ _ _ _ rfl b3 ?_
        rw [← el]
        obtain ⟨e1, e2, ⟨k, e3, e4, e5⟩, e6⟩ := M3
        exact ⟨e1, e2, ⟨k, e3, e4, Nat.le_succ_of_le e5⟩, e6⟩
    · refine ⟨_, rfl, rfl, _, rfl, iteF ?_⟩
      refine ⟨_, rfl, p, _, rfl, dget_of C.hp lc_names, d, rfl, .inl ⟨_, .inl hkd⟩, _, rfl, _, DGet.k (k := Sum.inr x) hkd, ?_⟩
      rw [hkc x]
      refine ⟨_, rfl, p, _, rfl, dget_of C.hp lc_wide, _, _, rfl, rfl, ⟨by decide, by decide⟩, _, rfl, _, _, rfl, rfl, hmul, ?_⟩
      refine ⟨_, rfl, rfl, _, rfl, iteT ?_⟩
      refine ⟨_, rfl, p, _, rfl, dget_of C.hp lc_code, _, rfl, p, _, rfl, dget_of C.hp lc_low, _, rfl, _, _, rfl, rfl, _, _, rfl, rfl, .inr ⟨_, rfl, ?_⟩⟩
      have hrd : decide (s1.low + part (some x) s1 ≤ codeAt (fn L) (s1.n + 4)) = b := hb
      have ei : (if decide (s1.low + part (some x) s1 ≤ codeAt (fn L) (s1.n + 4)) = true then (1 : Int) else 0) = b2i b := by rw [hrd]; rfl
      show gName 2 (V.int (if decide (s1.low + part (some x) s1 ≤ codeAt (fn L) (s1.n + 4)) = true then (1 : Int) else 0)) _ _ _
      rw [ei]
      refine ⟨_, rfl, p, _, rfl, dget_of C.hp lc_low, _, rfl, _, rfl, _, _, rfl, rfl, .inr ⟨by cases b <;> decide, by cases b <;> decide⟩, _, _, rfl, rfl, _, dput_of C.hp seven lc_plow, ?_⟩
      have el : (s1.low + s1.wide / 2048 * prob (some x) s1 * b2i b) = low1 (some x) b s1 := by
        cases b
        · show s1.low + _ * 0 = s1.low
          omega
        · show s1.low + _ * 1 = s1.low + part (some x) s1
          rw [Int.mul_one]
          rfl
      have M2 := C.toLM.put (.int (s1.low + s1.wide / 2048 * prob (some x) s1 * b2i b)) (.int s1.wide) (.int s1.n) (.int (codeAt (fn L) (s1.n + 4))) odd
      have b2 : But p d H _ := But.upd1 (o := .dK (lc7 (.int (s1.low + s1.wide / 2048 * prob (some x) s1 * b2i b)) (.int s1.wide) (.int s1.n) (.ref d) (.ref t) (.int (codeAt (fn L) (s1.n + 4))) (.bl odd))) (But.refl H)
      have M3 := M2.put (.int (s1.low + s1.wide / 2048 * prob (some x) s1 * b2i b)) (.int (wide1 (some x) b s1)) (.int s1.n) (.int (codeAt (fn L) (s1.n + 4))) odd
      have b3 := b2.upd1 (o := .dK (lc7 (.int (s1.low + s1.wide / 2048 * prob (some x) s1 * b2i b)) (.int (wide1 (some x) b s1)) (.int s1.n) (.ref d) (.ref t) (.int (codeAt (fn L) (s1.n + 4))) (.bl odd)))
      cases b
      · refine ⟨_, rfl, rfl, _, rfl, iteF ?_⟩
        refine ⟨_, rfl, _, rfl, p, _, rfl, dput_of M2.hp seven lc_pwide, ?_⟩
        refine ⟨_, rfl, rfl, _, rfl, iteT ?_⟩
        have hk3 : (upd (upd H p (.dK (lc7 (.int (s1.low + s1.wide / 2048 * prob (some x) s1 * b2i false)) (.int s1.wide) (.int s1.n) (.ref d) (.ref t) (.int (codeAt (fn L) (s1.n + 4))) (.bl odd)))) p (.dK (lc7 (.int (s1.low + s1.wide / 2048 * prob (some x) s1 * b2i false)) (.int (wide1 (some x) false s1)) (.int s1.n) (.ref d) (.ref t) (.int (codeAt (fn L) (s1.n + 4))) (.bl odd)))) d = some (.dK kvs) := by rw [upd_ne C.ne.symm, upd_ne C.ne.symm]; exact hkd
        refine ⟨_, rfl, rfl, _, rfl, iteF ?_⟩
        refine ⟨_, rfl, _, _, rfl, rfl, _, _, rfl, rfl, ⟨by decide, by decide⟩, ?_⟩
        refine ⟨_, rfl, _, rfl, _, _, rfl, rfl, _, rfl, p, _, rfl, dget_of M3.hp lc_names, _, rfl, d, _, rfl, DPut.k (k := Sum.inr x) hk3 (n_size (by omega)), ?_⟩
        have ec : (s1.ch x + (2048 - s1.ch x) / 32) = chNew (s1.ch x) false := chNew_law (s1.ch x) false
        refine hw false _ _ _ _ _ rfl (But.upd2 b3) ?_
        rw [← el]
        refine ⟨C.ne, by rw [upd_ne C.ne]; exact M3.hp, ⟨_, upd_same, ?_, ?_⟩, seqT_upd hk3 (fun _ z => nomatch z) (fun _ _ z => nomatch z) M3.ht⟩
        · show ChD (putK kvs (Sum.inr x) (.int (s1.ch x + (2048 - s1.ch x) / 32))) _
          rw [ec]
          exact ChD.put hkc x false
        · exact Nat.le_trans (length_putK kvs _ _) (Nat.succ_le_succ hkl)
      · refine ⟨_, rfl, rfl, _, rfl, iteT ?_⟩
        refine ⟨_, rfl, p, _, rfl, dget_of M2.hp lc_wide, _, rfl, _, _, rfl, rfl, _, rfl, p, _, rfl, dput_of M2.hp seven lc_pwide, ?_⟩
        refine ⟨_, rfl, rfl, _, rfl, iteT ?_⟩
        have hk3 : (upd (upd H p (.dK (lc7 (.int (s1.low + s1.wide / 2048 * prob (some x) s1 * b2i true)) (.int s1.wide) (.int s1.n) (.ref d) (.ref t) (.int (codeAt (fn L) (s1.n + 4))) (.bl odd)))) p (.dK (lc7 (.int (s1.low + s1.wide / 2048 * prob (some x) s1 * b2i true)) (.int (wide1 (some x) true s1)) (.int s1.n) (.ref d) (.ref t) (.int (codeAt (fn L) (s1.n + 4))) (.bl odd)))) d = some (.dK kvs) := by rw [upd_ne C.ne.symm, upd_ne C.ne.symm]; exact hkd
        refine ⟨_, rfl, rfl, _, rfl, iteT ?_⟩
        refine ⟨_, rfl, _, _, rfl, rfl, ⟨by decide, by decide⟩, _, _, rfl, rfl, ?_⟩
        refine ⟨_, rfl, _, rfl, _, _, rfl, rfl, _, rfl, p, _, rfl, dget_of M3.hp lc_names, _, rfl, d, _, rfl, DPut.k (k := Sum.inr x) hk3 (n_size (by omega)), ?_⟩
        have ec : (s1.ch x + (0 - s1.ch x / 32)) = chNew (s1.ch x) true := chNew_law (s1.ch x) true
        refine hw true _ _ _ _ _ rfl (But.upd2 b3) ?_
        rw [← el]
        refine ⟨C.ne, by rw [upd_ne C.ne]; exact M3.hp, ⟨_, upd_same, ?_, ?_⟩, seqT_upd hk3 (fun _ z => nomatch z) (fun _ _ z => nomatch z) M3.ht⟩
        · show ChD (putK kvs (Sum.inr x) (.int (s1.ch x + (0 - s1.ch x / 32)))) _
          rw [ec]
          exact ChD.put hkc x true
        · exact Nat.le_trans (length_putK kvs _ _) (Nat.succ_le_succ hkl)
end K4
namespace K4
open PySem PySem.Spec PyProof.Rows L2
variable {P : Program} {w : World} {K : PySem.W.Frag} {mg : Str → Option Value} {base : Heap}
/-! ### the law's number -/
section
variable {L : List Int} {t p d l : Addr} {H H' : Hp} {s : CS Str} {odd : Bool} {xs : List V} {o : HO}
theorem LC.keep (C : LC K L t p d H s odd) (b : But p d H H') (h : H l = some (.lst xs)) : H' l = some (.lst xs) := by
  obtain ⟨kvs, hd, _⟩ := C.hd
  exact b _ _ h (ne_of h C.hp (fun z => nomatch z)) (ne_of h hd (fun z => nomatch z))
theorem LC.lst (C : LC K L t p d H s odd) (h : H l = some (.lst xs)) : LC K L t p d (upd H l o) s odd := by
  obtain ⟨kvs, hd, hc, hl⟩ := C.hd
  exact ⟨⟨C.ne, by rw [upd_ne (ne_of C.hp h (fun z => nomatch z))]; exact C.hp, ⟨kvs, by rw [upd_ne (ne_of hd h (fun z => nomatch z))]; exact hd, hc, hl⟩, seqT_upd h (fun _ z => nomatch z) (fun _ _ z => nomatch z) C.ht⟩, C.ok⟩
theorem LC.tk (C : LC K L t p d H s odd) (b : But p d H H') : TK K H H' := by
  obtain ⟨kvs, hd, _⟩ := C.hd
  exact TK.but b (by rw [C.hp]; trivial) (by rw [hd]; trivial)
end
def spLNum (K : PySem.W.Frag) : Sp := fun vs H Q _ => ∃ (L : List Int) (t p d : Addr) (x : Str) (most : Int) (s : CS Str) (odd : Bool), vs = [.ref p, .str x, .non, .int most] ∧ x.length ≤ 1000 ∧ 0 ≤ most ∧ most ≤ 8190 ∧ LC K L t p d H s odd ∧ s.m ≤ 8000 ∧
  ∀ H', LC K L t p d H' (run (fn L) (numT (nmOf x) most) s).2 (odd || (run (fn L) (numT (nmOf x) most) s).1.2) → But p d H H' → Q (.int (run (fn L) (numT (nmOf x) most) s).1.1) H'
theorem sc_lnum : FnScope ["_law_coder_here", "_law_name", "_law_n", "_law_most", "_law_many", "_law_k", "_law_going", "_law_wanted", "_law_signs", "_law_rest", "_law_at", "_law_found", "_law_sign_here"] ["_law_coder_here", "_law_name", "_law_n", "_law_most"] (defScope s_law_number) := ⟨rfl, rfl, rfl, by decide +kernel, rfl, by decide +kernel, by decide +kernel⟩
theorem nons_push (i : Nat) : List.replicate i V.non ++ [V.non] = List.replicate (i + 1) V.non := (List.replicate_succ' ..).symm
theorem d_lnum (B : Bt mg) (D : Df K mg "_law_number" s_law_number) (GP : Dk P w K mg base CX0 1 "_law_power" ["_law_number_here"] spLg) (GS : Dk P w K mg base CX0 1 "_law_sign" ["_law_coder_here", "_law_name", "_law_value"] (spSign K)) :
    Dk P w K mg base CX0 2 "_law_number" ["_law_coder_here", "_law_name", "_law_n", "_law_most"] (spLNum K) := by
  refine Dk.mk' D sc_lnum (fun _ _ _ _ _ _ us hl => match us, hl with | [_, _, _, _], _ => rfl) (fun vs H Q E h => ?_) (fun cdv A outer s H vs Q E hr h => ?_)
  · obtain ⟨L, t, p, d, x, most, s, odd, rfl, _⟩ := h
    rfl
  · obtain ⟨L, t, p, d, x, most, s1, odd, rfl, hx, hm0, hm1, C, hm, q⟩ := h
    have hg : lg (most + 1) ≤ 12 := lg_le (by omega)
    rw [run_num] at q
    generalize eg : lg (most + 1) = g at hg q
    obtain ⟨tw, hW, hw⟩ : ∃ tw, PSs (cxOf CX0 P w K mg base ["_law_coder_here", "_law_name", "_law_n", "_law_most", "_law_many", "_law_k", "_law_going", "_law_wanted", "_law_signs", "_law_rest", "_law_at", "_law_found", "_law_sign_here"] "_law_number" (defScope s_law_number) (He.ga K "_law_number") cdv A outer s H E).nox ((defBody s_law_number).drop 2) tw ∧
        ∀ (k : Nat) (s2 : CS Str) (z4 z6 z7 : Option V) (H1 : Hp), run (fn L) (upT (nmOf x) g 0) s1 = (k, s2) → k ≤ 12 → s2.m ≤ 8100 → But p d H H1 → LC K L t p d H1 s2 odd →
          tw { nx := fun _ H' => Q .non H', rt := Q } [some (.ref p), some (.str x), some .non, some (.int most), z4, some (.int k), z6, z7, none, none, none, none, none] H1 := by
      refine ⟨_, pss_cons (ps_par (i := 8) (j := 9) (by rfl) sc_lnum.nd rfl rfl (by decide) rfl rfl (pa_cons (pe_lst pa_nil) (pa_cons (pe_ifExp (pt_cmpR op_isN (pv 2) pe_non (nomark _)) pe_int (pe_op op_add (pv 2) pe_int)) pa_nil)) (by rfl))
        (pss_cons (ps_for PassesOwn.never rfl (pi_range1 rfl B.range (pa_cons (pv 5) pa_nil)) (pg_name (i := 10) sc_lnum.nd rfl (.inl rfl))
          (pss_cons (ps_expr (pe_bm PySem.F.plainAttrs_list PySem.F.slot_list_append PySem.F.type_list_append mt_append (pv 8) (pa_cons (pe_ifExp (pt_cmpR op_isN (pv 2) pe_non (nomark _)) pe_non (pe_op op_mod (pv 9) pe_int)) pa_nil)))
          (pss_one (ps_set (i := 9) sc_lnum.nd rfl (.inl rfl) (pe_op op_fdiv (pv 9) pe_int)))))
        (pss_cons (ps_set (i := 11) sc_lnum.nd rfl (.inl rfl) pe_int)
        (pss_cons (ps_for PassesOwn.never rfl (pi_list (pe_revL (pv 8))) (pg_name (i := 12) sc_lnum.nd rfl (.inl rfl))
          (pss_one (ps_set (i := 11) sc_lnum.nd rfl (.inl rfl) (pe_op op_add (pe_op op_mul pe_int (pv 11)) (pcall GS hr (by decide) rfl (pa_cons (pv 0) (pa_cons pe_non (pa_cons (pv 12) pa_nil))))))))
        (pss_cons (ps_dput (room1 hr) (pv 0) pe_str (pe_or (pe_dget (room1 hr) (pv 0) pe_str (fun _ _ => rfl)) (pe_one (pe_cmpR op_gt (pe_op op_sub (pv 11) pe_int) (pv 3) (nomark _)))) (by rfl))
        (pss_one (ps_ret (pB (call_min2 rfl) B.min (pa_cons (pe_op op_sub (pv 11) pe_int) (pa_cons (pv 3) pa_nil))))))))), ?_⟩
      intro k s2 z4 z6 z7 H1 e1 hk hs2 b1 C1
      rw [e1] at q
      refine ⟨by show 0 ≤ sizeLine; decide, fun l hl => ⟨_, rfl, rfl, _, rfl, iteT ⟨_, _, rfl, ?_⟩⟩⟩
      have C2 : LC K L t p d (upd H1 l (.lst [])) s2 odd := C1.same (Same.new hl)
      have b2 : But p d H (upd H1 l (.lst [])) := b1.trans (But.of_same (Same.new hl))
      have h2 : upd H1 l (.lst []) l = some (.lst []) := upd_same
      generalize upd H1 l (.lst []) = H2 at C2 b2 h2
      refine ⟨_, rfl, (k : Int), rfl, by omega, by omega, for_range (lo := 0) (n := (k : Int).toNat) (fun i σ H' => ∃ (v : Int) (z : Option V), σ = [some (.ref p), some (.str x), some .non, some (.int most), z4, some (.int k), z6, z7, some (.ref l), some (.int v), z, none, none] ∧ But p d H H' ∧ LC K L t p d H' s2 odd ∧ H' l = some (.lst (List.replicate i V.non)))
        ⟨0, none, rfl, b2, C2, h2⟩ ?_ ?_⟩
      · rintro i σ H' hi ⟨v, z, rfl, b3, C3, h3⟩
        refine ⟨_, rfl, .inl ⟨rfl, _, .inl (.inl h3)⟩, _, rfl, rfl, _, rfl, iteT ⟨l, _, .non, rfl, rfl, h3, by rw [List.length_replicate]; exact n_size (by omega), _, rfl, _, _, rfl, rfl, ⟨by decide, by decide⟩, ?_⟩⟩
        have n1 : l ≠ p := ne_of h3 C3.hp (fun z => nomatch z)
        have n2 : l ≠ d := by
          obtain ⟨kvs, hd, _⟩ := C3.hd
          exact ne_of h3 hd (fun z => nomatch z)
        refine ⟨_, _, rfl, fun a u ha na nd => ?_, C3.lst h3, by rw [upd_same, nons_push]⟩
        by_cases el : a = l
        · subst el
          have hH1 := b1 _ _ ha na nd
          exact absurd hH1 (by rw [hl]; exact fun z => nomatch z)
        · rw [upd_ne el]
          exact b3 _ _ ha na nd
      · rintro σ H' ⟨v0, z, rfl, b3, C3, h3⟩
        rw [Int.toNat_natCast] at h3
        refine ⟨_, rfl, l, _, rfl, .inl (.inl h3), fun r hr' => ?_⟩
        have C4 : LC K L t p d (upd H' r (.lst (List.replicate k V.non).reverse)) s2 odd := C3.same (Same.new hr')
        have b4 : But p d H (upd H' r (.lst (List.replicate k V.non).reverse)) := b3.trans (But.of_same (Same.new hr'))
        have h4 : upd H' r (.lst (List.replicate k V.non).reverse) r = some (.lst (List.replicate k V.non)) := by rw [upd_same, List.reverse_replicate]
        generalize upd H' r (.lst (List.replicate k V.non).reverse) = H4 at C4 b4 h4
        refine ⟨r, rfl, ⟨_, .inl (.inl h4)⟩, for_list (K := K) (a := r) (xs := List.replicate k V.non) (fun i σ H' => ∃ (v : Int) (s3 : CS Str) (z12 : Option V) , σ = [some (.ref p), some (.str x), some .non, some (.int most), z4, some (.int k), z6, z7, some (.ref l), some (.int v0), z, some (.int v), z12] ∧ But p d H H' ∧ LC K L t p d H' s3 odd ∧ H' r = some (.lst (List.replicate k V.non)) ∧ i ≤ k ∧ s3.m = s2.m + i ∧ run (fn L) (evT (k - i) v) s3 = run (fn L) (evT k 1) s2)
          ⟨1, s2, none, rfl, b4, C4, h4, Nat.zero_le _, rfl, rfl⟩ (fun i σ H' _ ⟨_, _, _, _, _, _, h, _⟩ => .inl (.inl h)) ?_ ?_⟩
        · rintro i y σ H' hy ⟨v, s3, z12, rfl, b5, C5, h5, hik, hms, he⟩
          have hi : i < k := by
            have := (List.getElem?_eq_some_iff.mp hy).1
            rw [List.length_replicate] at this
            exact this
          obtain rfl : y = V.non := by
            rw [List.getElem?_replicate, if_pos hi] at hy
            exact (Option.some.inj hy).symm
          refine ⟨_, rfl, _, _, rfl, rfl, .inl ⟨by decide, by decide⟩, _, rfl, _, rfl, L, t, p, d, none, s3, odd, rfl, C5, by omega, fun H6 C6 b6 => ?_⟩
          refine ⟨_, _, rfl, rfl, 2 * v + b2i (rd (fn L) none s3), step none (rd (fn L) none s3) s3, some .non, rfl, b5.trans b6, C6, C5.keep b6 h5, hi, by rw [step_m]; omega, ?_⟩
          rw [← he, show k - i = (k - (i + 1)) + 1 from by omega]
          rfl
        · rintro σ H' ⟨v, s3, z12, rfl, b5, C5, h5, hik, hms, he⟩
          rw [List.length_replicate, Nat.sub_self] at he
          rw [← he] at q
          have q : ∀ H', LC K L t p d H' s3 (odd || decide (most < v - 1)) → But p d H H' → Q (.int (min (v - 1) most)) H' := q
          have em : (if most < v - 1 then most else v - 1) = min (v - 1) most := by
            split <;> omega
          rw [← em] at q
          have M6 := C5.toLM.put (.int s3.low) (.int s3.wide) (.int s3.n) (.int (codeAt (fn L) (s3.n + 4))) (odd || decide (most < v - 1))
          have b6 : But p d H (upd H' p (.dK (lc7 (.int s3.low) (.int s3.wide) (.int s3.n) (.ref d) (.ref t) (.int (codeAt (fn L) (s3.n + 4))) (.bl (odd || decide (most < v - 1)))))) := But.upd1 b5
          have fq := q _ ⟨M6, C5.ok⟩ b6
          refine ⟨_, rfl, p, _, rfl, dget_of C5.hp lc_odd, odd, rfl, ?_⟩
          cases odd with
          | true => exact iteT ⟨_, rfl, p, _, rfl, dput_of C5.hp seven lc_podd, _, rfl, _, _, rfl, rfl, _, rfl, _, _, rfl, fq⟩
          | false => exact iteF ⟨_, rfl, _, _, rfl, rfl, _, rfl, _, _, rfl, rfl, _, rfl, p, _, rfl, dput_of C5.hp seven lc_podd, _, rfl, _, _, rfl, rfl, _, rfl, _, _, rfl, fq⟩
    refine ⟨_, pss_cons (ps_par3 (i := 4) (j := 5) (l := 6) (by rfl) sc_lnum.nd rfl rfl rfl (by decide) (by decide) (by decide) rfl rfl rfl (pa_cons (pe_ifExp (pt_cmpR op_isN (pv 2) pe_non (nomark _)) (pe_un un_neg pe_int) (pcall GP hr (by decide) rfl (pa_cons (pe_op op_add (pv 2) pe_int) pa_nil))) (pa_cons pe_int (pa_cons pe_bl pa_nil))) (by rfl))
      (pss_cons (ps_while PassesOwn.never (PW.pt (pw_and (pt_val (pv 6)) (pw_and1 (pt_cmpR op_lt (pv 5) (pcall GP hr (by decide) rfl (pa_cons (pe_op op_add (pv 3) pe_int) pa_nil)) (nomark _)))))
        (pss_cons (ps_set (i := 7) sc_lnum.nd rfl (.inl rfl) (pe_ifExp (pt_cmpR op_isN (pv 2) pe_non (nomark _)) pe_non (pT call_int1 B.int (pa_cons (pe_cmpR op_lt (pv 5) (pv 4) (nomark _)) pa_nil))))
        (pss_cons (ps_set (i := 6) sc_lnum.nd rfl (.inl rfl) (pe_cmpR op_eq (pcall GS hr (by decide) rfl (pa_cons (pv 0) (pa_cons (pe_op op_add_str (pe_op op_add_str (pv 1) pe_str) (pT call_str_int B.str (pa_cons (pv 5) pa_nil))) (pa_cons (pv 7) pa_nil)))) pe_int (nomark _)))
        (pss_one (ps_aug (i := 5) sc_lnum.nd rfl (.inl rfl) (pT call_int1 B.int (pa_cons (pv 6) pa_nil)) ip_add)))))
      hW), ?_⟩
    refine ⟨_, rfl, rfl, _, rfl, iteT ⟨1, rfl, _, _, _, rfl, ?_⟩⟩
    refine ⟨fun m σ H' => ∃ (k : Nat) (s2 : CS Str) (gb : Bool) (z7 : Option V), σ = [some (.ref p), some (.str x), some .non, some (.int most), some (.int (-1)), some (.int k), some (.bl gb), z7, none, none, none, none, none] ∧ k ≤ g ∧ But p d H H' ∧ LC K L t p d H' s2 odd ∧
      ((gb = true ∧ m = g - k + 1 ∧ s2.m ≤ s1.m + k ∧ run (fn L) (upT (nmOf x) (g - k) k) s2 = run (fn L) (upT (nmOf x) g 0) s1) ∨ (gb = false ∧ m = 0 ∧ s2.m ≤ s1.m + 20 ∧ run (fn L) (upT (nmOf x) g 0) s1 = (k, s2))),
      ⟨_, 0, s1, true, none, rfl, Nat.zero_le _, But.refl H, C, .inl ⟨rfl, rfl, Nat.le_refl _, rfl⟩⟩, ?_⟩
    rintro m σ H' ⟨k, s2, gb, z7, rfl, hk, b2, C2, ⟨rfl, rfl, hm2, e2⟩ | ⟨rfl, rfl, hm2, e2⟩⟩
    · refine ⟨_, rfl, _, rfl, iteT ?_⟩
      refine ⟨_, rfl, _, rfl, _, _, rfl, rfl, most + 1, rfl, ?_⟩
      rw [eg]
      refine ⟨_, _, rfl, rfl, _, rfl, ite2 (fun cc => ?_) (fun cc => ?_)⟩
      · have c1 : k < g := by have := of_decide_eq_true cc; omega
        rw [show g - k = (g - (k + 1)) + 1 from by omega] at e2
        have e2' : run (fn L) (if rd (fn L) (some (nmOf x k)) s2 = true then upT (nmOf x) (g - (k + 1)) (k + 1) else .ret k) (step (some (nmOf x k)) (rd (fn L) (some (nmOf x k)) s2) s2) = run (fn L) (upT (nmOf x) g 0) s1 := e2
        have l1 : (" " : Str).length = 1 := by decide +kernel
        have hk2 := tx_len (show k ≤ 9999 by omega)
        refine ⟨fun σ' H'' => ∃ (k' : Nat) (s3 : CS Str) (gb : Bool), σ' = [some (.ref p), some (.str x), some .non, some (.int most), some (.int (-1)), some (.int k'), some (.bl gb), some .non, none, none, none, none, none] ∧ k' ≤ g ∧ But p d H H'' ∧ LC K L t p d H'' s3 odd ∧ ((gb = true ∧ k' = k + 1 ∧ s3.m ≤ s1.m + k' ∧ run (fn L) (upT (nmOf x) (g - k') k') s3 = run (fn L) (upT (nmOf x) g 0) s1) ∨ (gb = false ∧ s3.m ≤ s1.m + 20 ∧ run (fn L) (upT (nmOf x) g 0) s1 = (k', s3))),
          fun σ' H'' ⟨k', s3, gb, e, h1, h2, h3, h4⟩ => ?_, ?_⟩
        · rcases h4 with ⟨h5, h6, h7, h8⟩ | ⟨h5, h7, h8⟩
          · exact ⟨g - k' + 1, by omega, k', s3, gb, _, e, h1, h2, h3, .inl ⟨h5, rfl, h7, h8⟩⟩
          · exact ⟨0, by omega, k', s3, gb, _, e, h1, h2, h3, .inr ⟨h5, rfl, h7, h8⟩⟩
        · refine ⟨_, rfl, rfl, _, rfl, iteT ?_⟩
          refine ⟨_, rfl, _, rfl, x, (" " : Str), rfl, rfl, line_ge (by omega), _, rfl, _, rfl, log_small (show k ≤ 9999 by omega), _, _, rfl, rfl, ?_, _, rfl, ?_⟩
          · rw [Str.length_append]
            show x.length + (" " : Str).length + (tx k).length ≤ sizeLine
            exact line_ge (by omega)
          refine ⟨L, t, p, d, some (nmOf x k), s2, odd, rfl, C2, by omega, fun H3 C3 b3 => ?_⟩
          generalize hb : rd (fn L) (some (nmOf x k)) s2 = b at C3 e2'
          cases b with
          | true =>
            rw [if_pos rfl] at e2'
            exact ⟨rfl, _, rfl, _, rfl, .inr ⟨_, rfl, _, _, rfl, rfl, k + 1, step (some (nmOf x k)) true s2, true, rfl, c1, b2.trans b3, C3, .inl ⟨rfl, rfl, by rw [step_m]; omega, e2'⟩⟩⟩
          | false =>
            rw [if_neg (by decide)] at e2'
            exact ⟨rfl, _, rfl, _, rfl, .inr ⟨_, rfl, _, _, rfl, rfl, k, step (some (nmOf x k)) false s2, false, rfl, hk, b2.trans b3, C3, .inr ⟨rfl, by rw [step_m]; omega, e2'.symm⟩⟩⟩
      · have c1 : ¬ k < g := fun z => cc (decide_eq_true (by omega))
        have ek : k = g := by omega
        subst ek
        rw [Nat.sub_self] at e2
        exact hw k s2 _ _ _ H' e2.symm (by omega) (by omega) b2 C2
    · exact ⟨_, rfl, _, rfl, iteF (hw k s2 _ _ _ H' e2 (by omega) (by omega) b2 C2)⟩
end K4
namespace K4
open PySem PySem.Spec PyProof.Rows L2
variable {P : Program} {w : World} {K : PySem.W.Frag} {mg : Str → Option Value} {base : Heap}
/-! ### _law_counts_by -/
theorem sc_counts : FnScope ["_law_one", "_law_guess"] ["_law_one", "_law_guess"] (defScope s_law_counts_by) := ⟨rfl, rfl, rfl, by decide +kernel, rfl, by decide +kernel, by decide +kernel⟩
theorem ChX.at0 {H : Hp} {xs : List V} {c : Ch} (hx : ChX K H xs c) : xs[0]? = some (.str (kS c)) := by
  cases c with
  | bes i r => obtain ⟨y, rfl, _⟩ := hx; rfl
  | as w => have hx : xs = _ := hx; subst hx; rfl
  | mov w v r => obtain ⟨x, y, rfl, _⟩ := hx; rfl
  | both v u r => obtain ⟨x, z, y, rfl, _⟩ := hx; rfl
theorem d_counts (D : Df K mg "_law_counts_by" s_law_counts_by) : Dk P w K mg base CX0 1 "_law_counts_by" ["_law_one", "_law_guess"] (spFirst K) := by
  refine Dk.mk' D sc_counts (fun _ _ _ _ _ _ us hl => match us, hl with | [_, _], _ => rfl) (fun vs H Q E h => ?_) (fun cdv A outer s H vs Q E hr h => ?_)
  · obtain ⟨x, gx, c, g, rfl, _⟩ := h
    rfl
  · obtain ⟨x, gx, c, g, rfl, ⟨a, xs, rfl, hs, hx⟩, hg, q⟩ := h
    have h0 := atI_nat (j := 0) (ChX.at0 hx)
    have q := fun y hy => q y H (Same.refl H) hy
    refine ⟨_, pss_cons (ps_if (pt_cmpR op_eq (pe_ix ix_tup (pv 0) pe_int (fun _ _ => rfl)) pe_str (nomark _)) (pss_one (ps_ret (pv 1))) pss_nil)
      (pss_one (ps_ret (pe_ifExp (pt_cmpR op_eq (pe_ix ix_tup (pv 0) pe_int (fun _ _ => rfl)) pe_str (nomark _)) (pe_ix ix_tup (pv 0) pe_int (fun _ _ => rfl)) (pe_ifExp (pt_cmpR op_eq (pe_ix ix_tup (pv 0) pe_int (fun _ _ => rfl)) pe_str (nomark _)) (pe_ix ix_tup (pv 0) pe_int (fun _ _ => rfl)) pe_non)))), ?_⟩
    refine ⟨_, rfl, a, xs, 0, _, rfl, rfl, hs, h0, rfl, _, rfl, ite2 (fun cc => ?_) (fun cc => ?_)⟩
    · have e : kS c = "as" := V.str.inj (of_decide_eq_true cc)
      refine ⟨_, rfl, q _ ?_⟩
      cases c with
      | bes i r => exact absurd e (bes_not i).1
      | as w => exact hg
      | mov w v r => exact absurd e (by show ¬ ("moved" : Str) = "as"; decide +kernel)
      | both v u r => exact absurd e (by show ¬ ("both" : Str) = "as"; decide +kernel)
    · have nas : ¬ kS c = "as" := fun e => cc (decide_eq_true (by rw [e]))
      refine ⟨_, rfl, a, xs, 0, _, rfl, rfl, hs, h0, rfl, _, rfl, ite2 (fun cc => ?_) (fun cc => ?_)⟩
      · have e : kS c = "moved" := V.str.inj (of_decide_eq_true cc)
        cases c with
        | bes i r => exact absurd e (bes_not i).2.1
        | as w => exact absurd rfl nas
        | mov w v r =>
          obtain ⟨x, y, rfl, h3, h4⟩ := hx
          exact ⟨_, rfl, a, _, 2, x, rfl, rfl, hs, atI_nat (j := 2) rfl, q _ h3⟩
        | both v u r => exact absurd e (by show ¬ ("both" : Str) = "moved"; decide +kernel)
      · have nmo : ¬ kS c = "moved" := fun e => cc (decide_eq_true (by rw [e]))
        refine ⟨_, rfl, a, xs, 0, _, rfl, rfl, hs, h0, rfl, _, rfl, ite2 (fun cc => ?_) (fun cc => ?_)⟩
        · have e : kS c = "both" := V.str.inj (of_decide_eq_true cc)
          cases c with
          | bes i r => exact absurd e (bes_not i).2.2
          | as w => exact absurd rfl nas
          | mov w v r => exact absurd rfl nmo
          | both v u r =>
            obtain ⟨x, z, y, rfl, h3, h4, h5⟩ := hx
            exact ⟨_, rfl, a, _, 1, x, rfl, rfl, hs, atI_nat (j := 1) rfl, q _ h3⟩
        · have nbo : ¬ kS c = "both" := fun e => cc (decide_eq_true (by rw [e]))
          cases c with
          | bes i r => exact q _ rfl
          | as w => exact absurd rfl nas
          | mov w v r => exact absurd rfl nmo
          | both v u r => exact absurd rfl nbo
/-! ### _law_told_vector -/
def spTVec (K : PySem.W.Frag) : Sp := fun vs H Q _ => ∃ (L : List Int) (t p d : Addr) (gx : V) (g : Vec) (s : CS Str) (odd : Bool), vs = [.ref p, .non, gx] ∧ IsV K H gx g ∧ LC K L t p d H s odd ∧ s.m ≤ 7900 ∧
  ∀ y H', LC K L t p d H' (run (fn L) (vecT MM g) s).2 (odd || (run (fn L) (vecT MM g) s).1.2) → But p d H H' → IsV K H' y (run (fn L) (vecT MM g) s).1.1 → Q y H'
theorem sc_tvec : FnScope ["_law_coder_here", "_law_vector_here", "_law_guess", "_law_found", "_law_k", "_law_name", "_law_apart", "_law_number_here"] ["_law_coder_here", "_law_vector_here", "_law_guess"] (defScope s_law_told_vector) := ⟨rfl, rfl, rfl, by decide +kernel, rfl, by decide +kernel, by decide +kernel⟩
theorem run_vec3 (f : Nat → Int) (g : Vec) (s : CS Str) : (run f (vecT MM g) s).1.2 = ((run f (numT MM.x 64) s).1.2 || (run f (numT MM.y 64) (run f (numT MM.x 64) s).2).1.2) := by
  unfold vecT
  rw [run_bindO, run_bindO]
  show (_ || (_ || false)) = _
  rw [Bool.or_false]
theorem but_lst {p d l : Addr} {H H' : Hp} {o : HO} (hl : H l = none) (b : But p d H H') : But p d H (upd H' l o) := fun a u e n1 n2 => by
  rw [upd_ne (ne_of_none e hl)]
  exact b a u e n1 n2
theorem d_tvec (B : Bt mg) (D : Df K mg "_law_told_vector" s_law_told_vector) (GN : Dk P w K mg base CX0 2 "_law_number" ["_law_coder_here", "_law_name", "_law_n", "_law_most"] (spLNum K)) : Dk P w K mg base CX0 3 "_law_told_vector" ["_law_coder_here", "_law_vector_here", "_law_guess"] (spTVec K) := by
  refine Dk.mk' D sc_tvec (fun _ _ _ _ _ _ us hl => match us, hl with | [_, _, _], _ => rfl) (fun vs H Q E h => ?_) (fun cdv A outer s H vs Q E hr h => ?_)
  · obtain ⟨L, t, p, d, gx, g, s, odd, rfl, _⟩ := h
    rfl
  · obtain ⟨L, t, p, d, gx, g, s1, odd, rfl, ⟨b, rfl, hb⟩, C, hm, q⟩ := h
    obtain ⟨r1, r2⟩ := run_vec (fn L) g s1
    rw [r1, r2, run_vec3] at q
    refine ⟨_, pss_cons (ps_set (i := 3) sc_tvec.nd rfl (.inl rfl) (pe_lst pa_nil))
      (pss_cons (ps_for PassesOwn.never rfl (pi_enum rfl B.enumerate (pa_cons (pe_lst (pa_cons pe_str (pa_cons pe_str pa_nil))) pa_nil)) (pg_tup (by rfl) (pgs_cons (pg_name (i := 4) sc_tvec.nd rfl (.inl rfl)) (pgs_cons (pg_name (i := 5) sc_tvec.nd rfl (.inl rfl)) pgs_nil)))
        (pss_cons (ps_set (i := 6) sc_tvec.nd rfl (.inl rfl) (pe_ifExp (pt_cmpR op_isN (pv 1) pe_non (nomark _)) pe_non (pe_op op_mod (pe_op op_sub (pe_ix ix_tup (pv 1) (pv 4) (fun _ _ => rfl)) (pe_ix ix_tup (pv 2) (pv 4) (fun _ _ => rfl))) pe_int)))
        (pss_cons (ps_set (i := 7) sc_tvec.nd rfl (.inl rfl) (pcall GN hr (by decide) rfl (pa_cons (pv 0) (pa_cons (pv 5) (pa_cons (pv 6) (pa_cons pe_int pa_nil))))))
        (pss_one (ps_expr (pe_bm PySem.F.plainAttrs_list PySem.F.slot_list_append PySem.F.type_list_append mt_append (pv 3) (pa_cons (pe_op op_sub (pe_op op_mod (pe_op op_add (pe_op op_add (pv 7) (pe_ix ix_tup (pv 2) (pv 4) (fun _ _ => rfl))) pe_int) pe_int) pe_int) pa_nil)))))))
      (pss_one (ps_ret (pT call_tuple_of B.tuple (pa_cons (pv 3) pa_nil))))), ?_⟩
    refine ⟨by show 0 ≤ sizeLine; decide, fun l hl => ⟨by show 2 ≤ sizeLine; decide, fun nl hnl => ?_⟩⟩
    have nln : l ≠ nl := fun e => by rw [← e, upd_same] at hnl; cases hnl
    have hnl0 : H nl = none := by rw [upd_ne nln.symm] at hnl; exact hnl
    have C2 : LC K L t p d (upd (upd H l (.lst [])) nl (.lst [.str "x", .str "y"])) s1 odd := (C.same (Same.new hl)).same (Same.new hnl)
    have b2 : But p d H (upd (upd H l (.lst [])) nl (.lst [.str "x", .str "y"])) := But.of_same ((Same.new hl).trans (Same.new hnl))
    have hl2 : upd (upd H l (.lst [])) nl (.lst [.str "x", .str "y"]) l = some (.lst []) := by rw [upd_ne nln, upd_same]
    have hn2 : upd (upd H l (.lst [])) nl (.lst [.str "x", .str "y"]) nl = some (.lst [.str "x", .str "y"]) := upd_same
    have hb2 := ((Same.new hl).trans (Same.new hnl) : Same H (upd (upd H l (.lst [])) nl (.lst [.str "x", .str "y"]))).seqT hb
    generalize upd (upd H l (.lst [])) nl (.lst [.str "x", .str "y"]) = H2 at C2 b2 hl2 hn2 hb2
    generalize ex : run (fn L) (numT MM.x 64) s1 = rx at q
    generalize ey : run (fn L) (numT MM.y 64) rx.2 = ry at q
    refine ⟨nl, _, rfl, .inl (.inl hn2), for_it (walk_enum (xs := [V.str "x", .str "y"])) (fun i σ H' => ∃ (z1 z2 z3 z4 : Option V) (si : CS Str) (oi : Bool) (acc : List V), σ = [some (.ref p), some .non, some (.ref b), some (.ref l), z1, z2, z3, z4] ∧ But p d H H' ∧ LC K L t p d H' si oi ∧ H' l = some (.lst acc) ∧ H' nl = some (.lst [.str "x", .str "y"]) ∧ SqT K H' b [.int g.1, .int g.2] ∧
        ((i = 0 ∧ si = s1 ∧ oi = odd ∧ acc = []) ∨ (i = 1 ∧ si = rx.2 ∧ oi = (odd || rx.1.2) ∧ acc = [.int (vp (rx.1.1 + g.1))]) ∨ (i = 2 ∧ si = ry.2 ∧ oi = (odd || rx.1.2 || ry.1.2) ∧ acc = [.int (vp (rx.1.1 + g.1)), .int (vp (ry.1.1 + g.2))])))
      ⟨none, none, none, none, s1, odd, [], rfl, b2, C2, hl2, hn2, hb2, .inl ⟨rfl, rfl, rfl, rfl⟩⟩ (fun i σ H' _ ⟨_, _, _, _, _, _, _, _, _, _, _, h, _⟩ => .inl (.inl h)) ?_ ?_⟩
    · rintro i x σ H' H'' hi ⟨z1, z2, z3, z4, si, oi, acc, rfl, b3, C3, hl3, hn3, hb3, hc⟩ ⟨T, y1, y2, rfl, hT, rfl, e1, e2⟩
      obtain rfl : V.int (i : Nat) = y1 := Option.some.inj e1
      have e2 : ([V.str "x", .str "y"] : List V)[i]? = some y2 := e2
      rcases hc with ⟨rfl, rfl, rfl, rfl⟩ | ⟨rfl, rfl, rfl, rfl⟩ | ⟨rfl, _⟩
      · obtain rfl : V.str "x" = y2 := Option.some.inj e2
        have sT : Same H' (upd H' T (.tup [.int ((0 : Nat) : Int), .str "x"])) := Same.new hT
        have tt : SqT K (upd H' T (.tup [.int ((0 : Nat) : Int), .str "x"])) T [.int ((0 : Nat) : Int), .str "x"] := .inl (.inl upd_same)
        have C4 := C3.same sT
        have b4 := b3.trans (But.of_same sT)
        have hl4 := sT _ _ hl3
        have hn4 := sT _ _ hn3
        have hb4 := sT.seqT hb3
        generalize upd H' T (.tup [.int ((0 : Nat) : Int), .str "x"]) = H4 at tt C4 b4 hl4 hn4 hb4
        refine ⟨T, _, rfl, tt, rfl, _, _, rfl, _, _, rfl, rfl, ?_⟩
        refine ⟨_, rfl, rfl, _, rfl, iteT ?_⟩
        refine ⟨_, rfl, _, rfl, _, rfl, L, t, p, d, "x", 64, _, _, rfl, str_xy.1, by decide, by decide, C4, by omega, fun H5 C5 b5 => ?_⟩
        have hl5 := C4.keep b5 hl4
        have hn5 := C4.keep b5 hn4
        have hb5 := C4.tk b5 _ _ hb4
        have ex' : run (fn L) (numT (nmOf "x") 64) si = rx := ex
        rw [ex'] at C5
        rw [ex']
        refine ⟨_, rfl, .inl ⟨rfl, _, .inl (.inl hl5)⟩, _, rfl, _, rfl, _, rfl, b, _, _, _, rfl, rfl, hb5, atI_nat (j := 0) rfl, _, _, rfl, rfl, _, _, rfl, rfl, _, _, rfl, rfl, by show (0 : Int) < 65; decide, _, _, rfl, rfl, ?_⟩
        refine ⟨l, _, _, rfl, rfl, hl5, by show 0 < sizeLine; decide, _, _, _, _, _, _, _, rfl, but_lst hl (b4.trans b5), C5.lst hl5, upd_same, by rw [upd_ne nln.symm]; exact hn5, seqT_upd hl5 (fun _ z => nomatch z) (fun _ _ z => nomatch z) hb5, .inr (.inl ⟨rfl, rfl, rfl, rfl⟩)⟩
      · obtain rfl : V.str "y" = y2 := Option.some.inj e2
        have sT : Same H' (upd H' T (.tup [.int ((1 : Nat) : Int), .str "y"])) := Same.new hT
        have tt : SqT K (upd H' T (.tup [.int ((1 : Nat) : Int), .str "y"])) T [.int ((1 : Nat) : Int), .str "y"] := .inl (.inl upd_same)
        have C4 := C3.same sT
        have b4 := b3.trans (But.of_same sT)
        have hl4 := sT _ _ hl3
        have hn4 := sT _ _ hn3
        have hb4 := sT.seqT hb3
        generalize upd H' T (.tup [.int ((1 : Nat) : Int), .str "y"]) = H4 at tt C4 b4 hl4 hn4 hb4
        refine ⟨T, _, rfl, tt, rfl, _, _, rfl, _, _, rfl, rfl, ?_⟩
        refine ⟨_, rfl, rfl, _, rfl, iteT ?_⟩
        refine ⟨_, rfl, _, rfl, _, rfl, L, t, p, d, "y", 64, _, _, rfl, str_xy.2, by decide, by decide, C4, by rw [← ex]; have := num_m (nm := MM.x) (show (0 : Int) ≤ 64 by decide) (by decide) (fn L) s1; omega, fun H5 C5 b5 => ?_⟩
        have hl5 := C4.keep b5 hl4
        have hn5 := C4.keep b5 hn4
        have hb5 := C4.tk b5 _ _ hb4
        have ey' : run (fn L) (numT (nmOf "y") 64) rx.2 = ry := ey
        rw [ey'] at C5
        rw [ey']
        refine ⟨_, rfl, .inl ⟨rfl, _, .inl (.inl hl5)⟩, _, rfl, _, rfl, _, rfl, b, _, _, _, rfl, rfl, hb5, atI_nat (j := 1) rfl, _, _, rfl, rfl, _, _, rfl, rfl, _, _, rfl, rfl, by show (0 : Int) < 65; decide, _, _, rfl, rfl, ?_⟩
        refine ⟨l, _, _, rfl, rfl, hl5, by show 1 < sizeLine; decide, _, _, _, _, _, _, _, rfl, but_lst hl (b4.trans b5), C5.lst hl5, upd_same, by rw [upd_ne nln.symm]; exact hn5, seqT_upd hl5 (fun _ z => nomatch z) (fun _ _ z => nomatch z) hb5, .inr (.inr ⟨rfl, rfl, rfl, rfl⟩)⟩
      · exact absurd hi (by decide)
    · rintro σ H' ⟨z1, z2, z3, z4, si, oi, acc, rfl, b3, C3, hl3, hn3, hb3, hc⟩
      rcases hc with ⟨h, _⟩ | ⟨h, _⟩ | ⟨_, rfl, rfl, rfl⟩
      · exact absurd h (by decide)
      · exact absurd h (by decide)
      · rw [Bool.or_assoc] at C3
        exact ⟨_, rfl, l, _, rfl, .inl ⟨.inl (.inl hl3), fun u hu => q _ _ (C3.same (Same.new hu)) (b3.trans (But.of_same (Same.new hu))) ⟨u, rfl, .inl (.inl upd_same)⟩⟩⟩
end K4
namespace K4
open PySem PySem.Spec PyProof.Rows L2
variable {P : Program} {w : World} {K : PySem.W.Frag} {mg : Str → Option Value} {base : Heap}
/-! ### _law_told_rest -/
theorem ints_eq : ∀ (l m : List Int), PyData.eqv (.list (l.map PyData.int)) (.list (m.map PyData.int)) = decide (l = m) := by
  intro l
  induction l with
  | nil => intro m; cases m <;> rfl
  | cons a l ih =>
    intro m
    cases m with
    | nil => rfl
    | cons b m =>
      have h := ih m
      rw [List.map_cons, List.map_cons]
      simp only [PyData.eqv, PyData.eqvAll] at h ⊢
      rw [h]
      by_cases e : a = b
      · subst e; simp
      · simp [e]
theorem run_mark3 (f : Nat → Int) (u : TO Str (List Int)) (s : CS Str) : (run f (markO u) s).1.2 = ((run f u s).1.2 || decide ((run f u s).1.1 = zeros)) := by
  unfold markO
  rw [run_bind]
  rfl
def spTRest (K : PySem.W.Frag) : Sp := fun vs H Q _ => ∃ (L : List Int) (t p d : Addr) (s : CS Str) (odd : Bool), vs = [.ref p, .non] ∧ LC K L t p d H s odd ∧ s.m ≤ 7000 ∧
  ∀ y H', LC K L t p d H' (run (fn L) (restT MM) s).2 (odd || (run (fn L) (restT MM) s).1.2) → But p d H H' → IsR K H' y (run (fn L) (restT MM) s).1.1 → Q y H'
theorem sc_trest : FnScope ["_law_coder_here", "_law_rest", "_law_there", "_law_found", "_law_at", "_law_k", "_law_size", "_law_below"] ["_law_coder_here", "_law_rest"] (defScope s_law_told_rest) := ⟨rfl, rfl, rfl, by decide +kernel, rfl, by decide +kernel, by decide +kernel⟩
theorem d_trest (B : Bt mg) (D : Df K mg "_law_told_rest" s_law_told_rest) (GS : Dk P w K mg base CX0 1 "_law_sign" ["_law_coder_here", "_law_name", "_law_value"] (spSign K)) (GN : Dk P w K mg base CX0 2 "_law_number" ["_law_coder_here", "_law_name", "_law_n", "_law_most"] (spLNum K)) : Dk P w K mg base CX0 3 "_law_told_rest" ["_law_coder_here", "_law_rest"] (spTRest K) := by
  refine Dk.mk' D sc_trest (fun _ _ _ _ _ _ us hl => match us, hl with | [_, _], _ => rfl) (fun vs H Q E h => ?_) (fun cdv A outer s H vs Q E hr h => ?_)
  · obtain ⟨L, t, p, d, s, odd, rfl, _⟩ := h
    rfl
  · obtain ⟨L, t, p, d, s1, odd, rfl, C, hm, q⟩ := h
    rw [run_rest] at q
    refine ⟨_, pss_cons (ps_set (i := 2) sc_trest.nd rfl (.inl rfl) (pe_ifExp (pt_cmpR op_isN (pv 1) pe_non (nomark _)) pe_non (pT call_int1 B.int (pa_cons (pe_cmpR (op_neK (room64 hr)) (pv 1) (pe_op op_repT (pe_tup (pa_cons pe_int pa_nil)) pe_int) (nomark _)) pa_nil))))
      (pss_cons (ps_if (pt_cmpR op_eq (pcall GS hr (by decide) rfl (pa_cons (pv 0) (pa_cons pe_str (pa_cons (pv 2) pa_nil)))) pe_int (nomark _)) (pss_one (ps_ret (pe_op op_repT (pe_tup (pa_cons pe_int pa_nil)) pe_int))) pss_nil)
      (pss_cons (ps_set (i := 3) sc_trest.nd rfl (.inl rfl) (pe_op op_rep (pe_lst (pa_cons pe_int pa_nil)) pe_int))
      (pss_cons (ps_for PassesOwn.never rfl (pi_enum rfl B.enumerate (pa_cons (pe_lst (pa_cons pe_int (pa_cons pe_int (pa_cons pe_int (pa_cons pe_int (pa_cons pe_int (pa_cons pe_int (pa_cons pe_int (pa_cons pe_int (pa_cons pe_int (pa_cons pe_int (pa_cons pe_int (pa_cons pe_int (pa_cons pe_int (pa_cons pe_int (pa_cons pe_int (pa_cons pe_int pa_nil))))))))))))))))) pa_nil)) (pg_tup (by rfl) (pgs_cons (pg_name (i := 4) sc_trest.nd rfl (.inl rfl)) (pgs_cons (pg_name (i := 5) sc_trest.nd rfl (.inl rfl)) pgs_nil)))
        (pss_cons (ps_set (i := 6) sc_trest.nd rfl (.inl rfl) (pe_ifExp (pt_cmpR op_isN (pv 1) pe_non (nomark _)) pe_non (pB call_abs B.abs (pa_cons (pe_ix ix_tup (pv 1) (pv 5) (fun _ _ => rfl)) pa_nil))))
        (pss_cons (ps_set (i := 7) sc_trest.nd rfl (.inl rfl) (pe_ifExp (pt_cmpR op_isN (pv 1) pe_non (nomark _)) pe_non (pT call_int1 B.int (pa_cons (pe_cmpR op_lt (pe_ix ix_tup (pv 1) (pv 5) (fun _ _ => rfl)) pe_int (nomark _)) pa_nil))))
        (pss_cons (ps_asg (pcall GN hr (by decide) rfl (pa_cons (pv 0) (pa_cons (pe_op op_add_str pe_str (pT call_str_int B.str (pa_cons (pv 4) pa_nil))) (pa_cons (pv 6) (pa_cons pe_int pa_nil))))) (pg_sub (pv 3) (pv 5) set_list (fun _ => rfl)))
        (pss_one (ps_if (PW.pt (pw_and (pt_cmpR op_ne (pe_ix ix_list (pv 3) (pv 5) (fun _ _ => rfl)) pe_int (nomark _)) (pw_and1 (pt_cmpR op_eq (pcall GS hr (by decide) rfl (pa_cons (pv 0) (pa_cons pe_non (pa_cons (pv 7) pa_nil)))) pe_int (nomark _)))))
          (pss_one (ps_asg (pe_op op_sub pe_int (pe_ix ix_list (pv 3) (pv 5) (fun _ _ => rfl))) (pg_sub (pv 3) (pv 5) set_list (fun _ => rfl)))) pss_nil))))))
      (pss_cons (ps_dput (room1 hr) (pv 0) pe_str (pe_or (pe_dget (room1 hr) (pv 0) pe_str (fun _ _ => rfl)) (pe_one (pe_cmpR (op_eqD (room64 hr)) (pv 3) (pe_op op_rep (pe_lst (pa_cons pe_int pa_nil)) pe_int) (nomark _)))) (by rfl))
      (pss_one (ps_ret (pT call_tuple_of B.tuple (pa_cons (pv 3) pa_nil)))))))), ?_⟩
    refine ⟨_, rfl, rfl, _, rfl, iteT ?_⟩
    refine ⟨_, rfl, _, rfl, L, t, p, d, some MM.rest, s1, odd, rfl, C, by omega, fun H2 C2 b2 => ⟨rfl, _, rfl, ?_⟩⟩
    cases hb : rd (fn L) (some MM.rest) s1 with
    | false =>
      rw [hb] at q C2
      rw [if_neg (by decide)] at q
      refine iteT ⟨by show 1 ≤ sizeLine; decide, fun u hu => ⟨u, 16, [.int 0], rfl, rfl, .inl (.inl upd_same), by simp, by decide, by decide, by decide, fun v hv => ?_⟩⟩
      have sm := (Same.new hu : Same H2 (upd H2 u (.tup [.int 0]))).trans (Same.new (o := .tup (zeros.map V.int)) hv)
      refine q _ _ ?_ (b2.trans (But.of_same sm)) ⟨v, rfl, .inl (.inl upd_same)⟩
      rw [Bool.or_false]
      exact C2.same sm
    | true =>
      rw [hb] at q C2
      rw [if_pos rfl] at q
      obtain ⟨k1, k2⟩ := run_mark (fn L) (goT MM.size order zeros) (step (some MM.rest) true s1)
      rw [k1, k2, run_mark3] at q
      have m2 : (step (some MM.rest) true s1).m = s1.m + 1 := step_m _ _ _
      generalize step (some MM.rest) true s1 = s2 at q C2 m2
      refine iteF ⟨by show 1 ≤ sizeLine; decide, fun l0 hl0 => ⟨l0, 16, [.int 0], rfl, rfl, upd_same, by decide, by decide, by decide, fun l hl => ?_⟩⟩
      have sm : Same H2 (upd (upd H2 l0 (.lst [.int 0])) l (.lst (zeros.map V.int))) := (Same.new hl0).trans (Same.new hl)
      have eh : upd (upd H2 l0 (.lst [.int 0])) l (.lst (List.replicate (Int.toNat 16) [V.int 0]).flatten) = upd (upd H2 l0 (.lst [.int 0])) l (.lst (zeros.map V.int)) := rfl
      rw [eh]
      have hl1 : upd (upd H2 l0 (.lst [.int 0])) l (.lst (zeros.map V.int)) l = some (.lst (zeros.map V.int)) := upd_same
      have C3 := C2.same sm
      have b3 : But p d H (upd (upd H2 l0 (.lst [.int 0])) l (.lst (zeros.map V.int))) := b2.trans (But.of_same sm)
      have nl0 : l ≠ l0 := fun e => by rw [e, upd_same] at hl; cases hl
      have hlH2 : H2 l = none := by rw [upd_ne nl0] at hl; exact hl
      have bl : ∀ {H6 : Hp} {o : HO}, But p d H H6 → But p d H (upd H6 l o) := fun b6 a o e n1 n2 => by
        rw [upd_ne (ne_of_none (b2 _ _ e n1 n2) hlH2)]
        exact b6 a o e n1 n2
      generalize upd (upd H2 l0 (.lst [.int 0])) l (.lst (zeros.map V.int)) = H3 at C3 hl1 b3
      refine ⟨by show 16 ≤ sizeLine; decide, fun nl hnl => ?_⟩
      have eh2 : upd H3 nl (.lst [.int 0, .int 1, .int 4, .int 8, .int 5, .int 2, .int 3, .int 6, .int 9, .int 12, .int 13, .int 10, .int 7, .int 11, .int 14, .int 15]) = upd H3 nl (.lst (ordL.map V.int)) := rfl
      rw [eh2]
      have s4 : Same H3 (upd H3 nl (.lst (ordL.map V.int))) := Same.new hnl
      have C4 := C3.same s4
      have hl4 := s4 _ _ hl1
      have b4 := b3.trans (But.of_same s4)
      have hn4 : upd H3 nl (.lst (ordL.map V.int)) nl = some (.lst (ordL.map V.int)) := upd_same
      have nln : nl ≠ l := fun e => by rw [e, hl1] at hnl; cases hnl
      generalize upd H3 nl (.lst (ordL.map V.int)) = H4 at C4 hl4 b4 hn4
      refine ⟨nl, _, rfl, .inl (.inl hn4), for_it (walk_enum (xs := ordL.map V.int)) (fun i σ H' => ∃ (z4 z5 z6 z7 : Option V) (s3 : CS Str) (oi : Bool) (fd : List Int), σ = [some (.ref p), some .non, some .non, some (.ref l), z4, z5, z6, z7] ∧ But p d H H' ∧ LC K L t p d H' s3 oi ∧ H' l = some (.lst (fd.map V.int)) ∧ H' nl = some (.lst (ordL.map V.int)) ∧ fd.length = 16 ∧ s3.m ≤ s2.m + 30 * i ∧
          (run (fn L) (goT MM.size (order.drop i) fd) s3).1.1 = (run (fn L) (goT MM.size order zeros) s2).1.1 ∧ (oi || (run (fn L) (goT MM.size (order.drop i) fd) s3).1.2) = (odd || (run (fn L) (goT MM.size order zeros) s2).1.2) ∧ (run (fn L) (goT MM.size (order.drop i) fd) s3).2 = (run (fn L) (goT MM.size order zeros) s2).2)
        ⟨none, none, none, none, s2, odd, zeros, rfl, b4, C4, hl4, hn4, rfl, by omega, rfl, rfl, rfl⟩ (fun i σ H' _ ⟨_, _, _, _, _, _, _, _, _, _, _, h, _⟩ => .inl (.inl h)) ?_ ?_⟩
      · rintro i x σ H' H'' hi ⟨z4, z5, z6, z7, s3, oi, fd, rfl, b5, C5, hl5, hn5, hfl, hm3, e3, e4, e5⟩ ⟨T, y1, y2, rfl, hT, rfl, f1, f2⟩
        obtain rfl : V.int (i : Nat) = y1 := Option.some.inj f1
        have f2 : (ordL.map V.int)[i]? = some y2 := f2
        have hi : i < 16 := hi
        obtain ⟨pl, hpl, hdrop, hat⟩ := ord_at i hi
        rw [List.getElem?_map, hat] at f2
        obtain rfl : V.int (pl : Int) = y2 := Option.some.inj f2
        have sT : Same H' (upd H' T (.tup [.int (i : Nat), .int pl])) := Same.new hT
        have tt : SqT K (upd H' T (.tup [.int (i : Nat), .int pl])) T [.int (i : Nat), .int pl] := .inl (.inl upd_same)
        have C6 := C5.same sT
        have hl6 := sT _ _ hl5
        have hn6 := sT _ _ hn5
        have b6 := b5.trans (But.of_same sT)
        generalize upd H' T (.tup [.int (i : Nat), .int pl]) = H6 at tt C6 hl6 hn6 b6
        refine ⟨T, _, rfl, tt, rfl, _, _, rfl, _, _, rfl, rfl, ?_⟩
        rw [hdrop] at e3 e4 e5
        unfold goT at e3 e4 e5
        rw [run_bindO] at e3 e4 e5
        have e3 : (run (fn L) (goT MM.size (order.drop (i + 1)) (fd.set pl (run (fn L) (snumT (MM.size i)) s3).1.1)) (run (fn L) (snumT (MM.size i)) s3).2).1.1 = _ := e3
        have e4 : (oi || ((run (fn L) (snumT (MM.size i)) s3).1.2 || (run (fn L) (goT MM.size (order.drop (i + 1)) (fd.set pl (run (fn L) (snumT (MM.size i)) s3).1.1)) (run (fn L) (snumT (MM.size i)) s3).2).1.2)) = _ := e4
        have e5 : (run (fn L) (goT MM.size (order.drop (i + 1)) (fd.set pl (run (fn L) (snumT (MM.size i)) s3).1.1)) (run (fn L) (snumT (MM.size i)) s3).2).2 = _ := e5
        rw [run_snum] at e3 e4 e5
        have l1 : ("size " : Str).length = 5 := by decide +kernel
        have hk2 := tx_len (show i ≤ 9999 by omega)
        refine ⟨_, rfl, rfl, _, rfl, iteT ⟨_, rfl, rfl, _, rfl, iteT ⟨_, rfl, _, rfl, _, rfl, log_small (show i ≤ 9999 by omega), ("size " : Str), _, rfl, rfl, ?_, _, rfl, L, t, p, d, szOf i, 4000, s3, oi, rfl, sz_len (by omega), by decide, by decide, C6, by omega, fun H7 C7 b7 => ?_⟩⟩⟩
        · show ("size " : Str).length + (tx i).length ≤ sizeLine
          exact line_ge (by omega)
        have hl7 := C6.keep b7 hl6
        have hn7 := C6.keep b7 hn6
        have m5 := num_m (nm := MM.size i) (show (0 : Int) ≤ 4000 by decide) (by decide) (fn L) s3
        have C7 : LC K L t p d H7 (run (fn L) (numT (MM.size i) 4000) s3).2 (oi || (run (fn L) (numT (MM.size i) 4000) s3).1.2) := C7
        generalize hr5 : run (fn L) (numT (MM.size i) 4000) s3 = r5 at C7 e3 e4 e5 m5
        rw [show run (fn L) (numT (nmOf (szOf i)) 4000) s3 = r5 from hr5]
        have hix : ixN (fd.map V.int).length (pl : Int) = some pl := ixN_nat (by rw [List.length_map, hfl]; exact hpl)
        have hset : ∀ (f : List Int) (z : Int), (f.map V.int).set pl (V.int z) = (f.set pl z).map V.int := fun f z => by rw [List.map_set]
        refine ⟨_, rfl, _, rfl, l, _, _, pl, rfl, rfl, hl7, hix, ?_⟩
        rw [hset]
        have b8 : But p d H (upd H7 l (.lst ((fd.set pl r5.1.1).map V.int))) := bl (b6.trans b7)
        have C8 := C7.lst (o := .lst ((fd.set pl r5.1.1).map V.int)) hl7
        have hl8 : upd H7 l (.lst ((fd.set pl r5.1.1).map V.int)) l = some (.lst ((fd.set pl r5.1.1).map V.int)) := upd_same
        have hn8 : upd H7 l (.lst ((fd.set pl r5.1.1).map V.int)) nl = some (.lst (ordL.map V.int)) := by rw [upd_ne nln]; exact hn7
        generalize upd H7 l (.lst ((fd.set pl r5.1.1).map V.int)) = H8 at b8 C8 hl8 hn8
        have hat8 : ((fd.set pl r5.1.1).map V.int)[pl]? = some (V.int r5.1.1) := by
          rw [List.getElem?_map, List.getElem?_set_self (by omega)]
          rfl
        have hfl8 : (fd.set pl r5.1.1).length = 16 := by rw [List.length_set]; exact hfl
        refine ⟨_, rfl, _, rfl, l, _, (pl : Int), _, rfl, rfl, .inl (.inl hl8), atI_nat hat8, rfl, _, rfl, ?_⟩
        by_cases c : r5.1.1 = 0
        · rw [if_pos c] at e3 e4 e5
          rw [c]
          refine iteF ?_
          rw [c] at hl8 hfl8
          rw [Bool.or_false, ← Bool.or_assoc] at e4
          exact ⟨_, _, _, _, r5.2, oi || r5.1.2, fd.set pl 0, rfl, b8, C8, hl8, hn8, hfl8, by omega, e3, e4, e5⟩
        · rw [if_neg c] at e3 e4 e5
          rw [decide_eq_false (fun h => c (V.int.inj h))]
          refine iteT ?_
          refine ⟨_, rfl, _, rfl, L, t, p, d, none, r5.2, oi || r5.1.2, rfl, C8, by omega, fun H9 C9 b9 => ⟨rfl, _, rfl, ?_⟩⟩
          have hl9 := C8.keep b9 hl8
          have hn9 := C8.keep b9 hn8
          have m6 : (step none (rd (fn L) none r5.2) r5.2).m = r5.2.m + 1 := step_m _ _ _
          rw [Bool.or_false, ← Bool.or_assoc] at e4
          cases hb2 : rd (fn L) none r5.2 with
          | false =>
            rw [hb2] at e3 e4 e5 C9 m6
            exact iteF ⟨_, _, _, _, step none false r5.2, oi || r5.1.2, fd.set pl r5.1.1, rfl, b8.trans b9, C9, hl9, hn9, hfl8, by omega, e3, e4, e5⟩
          | true =>
            rw [hb2] at e3 e4 e5 C9 m6
            have hix8 : ixN ((fd.set pl r5.1.1).map V.int).length (pl : Int) = some pl := ixN_nat (by rw [List.length_map, hfl8]; exact hpl)
            refine iteT ⟨_, rfl, _, rfl, l, _, (pl : Int), _, rfl, rfl, .inl (.inl hl9), atI_nat hat8, _, _, rfl, rfl, _, rfl, _, rfl, l, _, _, pl, rfl, rfl, hl9, hix8, ?_⟩
            rw [hset, List.set_set, Int.zero_sub]
            exact ⟨_, _, _, _, step none true r5.2, oi || r5.1.2, fd.set pl (-r5.1.1), rfl, bl (b8.trans b9), C9.lst hl9, upd_same, by rw [upd_ne nln]; exact hn9, by rw [List.length_set]; exact hfl, by omega, e3, e4, e5⟩
      · rintro σ H' ⟨z4, z5, z6, z7, s3, oi, fd, rfl, b5, C5, hl5, hn5, hfl, hm3, e3, e4, e5⟩
        have e3 : fd = _ := e3
        have e5 : s3 = _ := e5
        have e4 : (oi || false) = (odd || (run (fn L) (goT MM.size order zeros) s2).1.2) := e4
        rw [Bool.or_false] at e4
        rw [← Bool.or_assoc, ← e4, ← e3, ← e5] at q
        have fin : ∀ H9, Same H' H9 → ∀ (u : Addr) (H10 : Hp), H10 = upd H9 p (.dK (lc7 (.int s3.low) (.int s3.wide) (.int s3.n) (.ref d) (.ref t) (.int (codeAt (fn L) (s3.n + 4))) (.bl (oi || decide (fd = zeros))))) → H10 u = none → Q (.ref u) (upd H10 u (.tup (fd.map V.int))) := fun H9 s9 u H10 e10 hu => by
          subst e10
          have C9 := C5.same s9
          have M10 := C9.toLM.put (.int s3.low) (.int s3.wide) (.int s3.n) (.int (codeAt (fn L) (s3.n + 4))) (oi || decide (fd = zeros))
          have C10 : LC K L t p d _ s3 (oi || decide (fd = zeros)) := ⟨M10, C9.ok⟩
          exact q _ _ (C10.same (Same.new hu)) (((b5.trans (But.of_same s9)).upd1).trans (But.of_same (Same.new hu))) ⟨u, rfl, .inl (.inl upd_same)⟩
        have nlp : l ≠ p := ne_of hl5 C5.hp (fun z => nomatch z)
        refine ⟨_, rfl, p, _, rfl, dget_of C5.hp lc_odd, oi, rfl, ?_⟩
        cases oi with
        | true =>
          refine iteT ⟨_, rfl, p, _, rfl, dput_of C5.hp seven lc_podd, ?_⟩
          exact ⟨_, rfl, l, _, rfl, .inl ⟨.inl (.inl (by rw [upd_ne nlp]; exact hl5)), fun u hu => fin H' (Same.refl H') u _ rfl hu⟩⟩
        | false =>
          refine iteF ⟨_, rfl, by show 1 ≤ sizeLine; decide, fun a0 ha0 => ⟨a0, 16, [.int 0], rfl, rfl, upd_same, by decide, by decide, by decide, fun a1 ha1 => ?_⟩⟩
          have s9 : Same H' (upd (upd H' a0 (.lst [.int 0])) a1 (.lst (zeros.map V.int))) := (Same.new ha0).trans (Same.new ha1)
          have eh3 : upd (upd H' a0 (.lst [.int 0])) a1 (.lst (List.replicate (Int.toNat 16) [V.int 0]).flatten) = upd (upd H' a0 (.lst [.int 0])) a1 (.lst (zeros.map V.int)) := rfl
          rw [eh3]
          have h9 : upd (upd H' a0 (.lst [.int 0])) a1 (.lst (zeros.map V.int)) a1 = some (.lst (zeros.map V.int)) := upd_same
          generalize upd (upd H' a0 (.lst [.int 0])) a1 (.lst (zeros.map V.int)) = H9 at s9 h9
          refine ⟨_, _, .lst (.inl (.inl (s9 _ _ hl5))) (dp_ints fd), .lst (.inl (.inl h9)) (dp_ints zeros), ints_shaped fd, ints_shaped zeros, _, rfl, ?_⟩
          rw [ints_eq]
          have C9 := C5.same s9
          refine ⟨p, _, rfl, dput_of C9.hp seven lc_podd, ?_⟩
          exact ⟨_, rfl, l, _, rfl, .inl ⟨.inl (.inl (by rw [upd_ne nlp]; exact s9 _ _ hl5)), fun u hu => fin H9 s9 u _ rfl hu⟩⟩
end K4
namespace K4
open PySem PySem.Spec PyProof.Rows L2
variable {P : Program} {w : World} {K : PySem.W.Frag} {mg : Str → Option Value} {base : Heap}
/-! ### _law_told -/
theorem or3 (o a b : Bool) : (o || (false || (a || (b || false)))) = (o || a || b) := by cases o <;> cases a <;> cases b <;> rfl
theorem or4 (o a b c : Bool) : (o || (a || (b || (c || false)))) = (o || a || b || c) := by cases o <;> cases a <;> cases b <;> cases c <;> rfl
def allK : List V := [.str "flat", .str "left", .str "above", .str "slope", .str "as", .str "moved", .str "both"]
theorem cut_0 : cutV allK none (some 4) = (kindsL 0).map V.str := by rfl
theorem cut_1 : cutV allK none (some 6) = (kindsL 1).map V.str := by rfl
theorem cut_2 : cutV allK none (some 7) = (kindsL 2).map V.str := by rfl
theorem cut_at {reads : Nat} (h : reads ≤ 2) : ∃ z : Int, ([.int 4, .int 6, .int 7] : List V)[reads]? = some (.int z) ∧ cutV allK none (some z) = (kindsL reads).map V.str := by
  rcases (show reads = 0 ∨ reads = 1 ∨ reads = 2 by omega) with rfl | rfl | rfl
  · exact ⟨4, rfl, cut_0⟩
  · exact ⟨6, rfl, cut_1⟩
  · exact ⟨7, rfl, cut_2⟩
theorem run_choice3 (f : Nat → Int) (reads : Nat) (g : Vec) (s : CS Str) : (run f (choiceT MM reads g) s).1.2 = ((run f (numT MM.kind (kinds reads - 1)) s).1.2 || (run f (brT reads g (run f (numT MM.kind (kinds reads - 1)) s).1.1) (run f (numT MM.kind (kinds reads - 1)) s).2).1.2) := by
  unfold choiceT
  rw [run_bindO]
  rfl
def spTold (K : PySem.W.Frag) : Sp := fun vs H Q _ => ∃ (L : List Int) (t p d : Addr) (gx : V) (g : Vec) (reads : Nat) (s : CS Str) (odd : Bool), vs = [.ref p, .non, gx, .int reads] ∧ reads ≤ 2 ∧ IsV K H gx g ∧ LC K L t p d H s odd ∧ s.m ≤ 6000 ∧
  ∀ y H', LC K L t p d H' (run (fn L) (choiceT MM reads g) s).2 (odd || (run (fn L) (choiceT MM reads g) s).1.2) → But p d H H' → IsCh K H' y (run (fn L) (choiceT MM reads g) s).1.1 → Q y H'
theorem sc_told : FnScope ["_law_coder_here", "_law_choice", "_law_guess", "_law_reads", "_law_kinds", "_law_wanted", "_law_kind", "_law_parts", "_law_which", "_law_vector_here", "_law_other"] ["_law_coder_here", "_law_choice", "_law_guess", "_law_reads"] (defScope s_law_told) := ⟨rfl, rfl, rfl, by decide +kernel, rfl, by decide +kernel, by decide +kernel⟩
theorem d_told (B : Bt mg) (D : Df K mg "_law_told" s_law_told) (GS : Dk P w K mg base CX0 1 "_law_sign" ["_law_coder_here", "_law_name", "_law_value"] (spSign K)) (GN : Dk P w K mg base CX0 2 "_law_number" ["_law_coder_here", "_law_name", "_law_n", "_law_most"] (spLNum K))
    (GV : Dk P w K mg base CX0 3 "_law_told_vector" ["_law_coder_here", "_law_vector_here", "_law_guess"] (spTVec K)) (GR : Dk P w K mg base CX0 3 "_law_told_rest" ["_law_coder_here", "_law_rest"] (spTRest K)) : Dk P w K mg base CX0 4 "_law_told" ["_law_coder_here", "_law_choice", "_law_guess", "_law_reads"] (spTold K) := by
  refine Dk.mk' D sc_told (fun _ _ _ _ _ _ us hl => match us, hl with | [_, _, _, _], _ => rfl) (fun vs H Q E h => ?_) (fun cdv A outer s H vs Q E hr h => ?_)
  · obtain ⟨L, t, p, d, gx, g, reads, s, odd, rfl, _⟩ := h
    rfl
  · obtain ⟨L, t, p, d, gx, g, reads, s1, odd, rfl, h2, hg, C, hm, q⟩ := h
    obtain ⟨r1, r2⟩ := run_choice (fn L) reads g s1
    rw [r1, r2, run_choice3] at q
    refine ⟨_, pss_cons (ps_set (i := 4) sc_told.nd rfl (.inl rfl) (pe_slice sl_list (pe_lst (pa_cons pe_str (pa_cons pe_str (pa_cons pe_str (pa_cons pe_str (pa_cons pe_str (pa_cons pe_str (pa_cons pe_str pa_nil)))))))) po_none (po_some (pe_ix ix_list (pe_lst (pa_cons pe_int (pa_cons pe_int (pa_cons pe_int pa_nil)))) (pv 3) (fun _ _ => rfl)))))
      (pss_cons (ps_set (i := 5) sc_told.nd rfl (.inl rfl) (pe_ifExp (pt_cmpR op_isN (pv 1) pe_non (nomark _)) pe_non (pe_bm PySem.F.plainAttrs_list PySem.F.slot_list_index PySem.F.type_list_index mt_index (pv 4) (pa_cons (pe_ix ix_tup (pv 1) pe_int (fun _ _ => rfl)) pa_nil))))
      (pss_cons (ps_set (i := 6) sc_told.nd rfl (.inl rfl) (pe_ix ix_list (pv 4) (pcall GN hr (by decide) rfl (pa_cons (pv 0) (pa_cons pe_str (pa_cons (pv 5) (pa_cons (pe_op op_sub (pB call_len B.len (pa_cons (pv 4) pa_nil)) pe_int) pa_nil))))) (fun _ _ => rfl)))
      (pss_cons (ps_par (i := 7) (j := 8) (by rfl) sc_told.nd rfl rfl (by decide) rfl rfl (pa_cons (pe_orT (pv 1) (pe_one (pe_op op_repT (pe_tup (pa_cons pe_non pa_nil)) pe_int))) (pa_cons pe_int pa_nil)) (by rfl))
      (pss_cons (ps_if (PW.pt (pw_and (pt_cmpR op_in_seq (pv 6) (pe_lst (pa_cons pe_str (pa_cons pe_str pa_nil))) (by rfl)) (pw_and1 (pt_cmpR op_eq (pv 3) pe_int (nomark _))))) (pss_one (ps_set (i := 8) sc_told.nd rfl (.inl rfl) (pcall GS hr (by decide) rfl (pa_cons (pv 0) (pa_cons pe_str (pa_cons (pe_ix ix_tup (pv 7) pe_int (fun _ _ => rfl)) pa_nil)))))) pss_nil)
      (pss_cons (ps_if (pt_cmpR op_eq (pv 6) pe_str (nomark _)) (pss_one (ps_ret (pe_tup (pa_cons (pv 6) (pa_cons (pv 8) pa_nil))))) pss_nil)
      (pss_cons (ps_if (pt_cmpR op_eq (pv 6) pe_str (nomark _)) (pss_cons (ps_set (i := 9) sc_told.nd rfl (.inl rfl) (pcall GV hr (by decide) rfl (pa_cons (pv 0) (pa_cons (pe_ix ix_tup (pv 7) pe_int (fun _ _ => rfl)) (pa_cons (pv 2) pa_nil)))))
          (pss_one (ps_ret (pe_tup (pa_cons (pv 6) (pa_cons (pv 8) (pa_cons (pv 9) (pa_cons (pcall GR hr (by decide) rfl (pa_cons (pv 0) (pa_cons (pe_ix ix_tup (pv 7) pe_int (fun _ _ => rfl)) pa_nil))) pa_nil)))))))) pss_nil)
      (pss_cons (ps_if (pt_cmpR op_eq (pv 6) pe_str (nomark _)) (pss_cons (ps_set (i := 9) sc_told.nd rfl (.inl rfl) (pcall GV hr (by decide) rfl (pa_cons (pv 0) (pa_cons (pe_ix ix_tup (pv 7) pe_int (fun _ _ => rfl)) (pa_cons (pv 2) pa_nil)))))
          (pss_cons (ps_set (i := 10) sc_told.nd rfl (.inl rfl) (pcall GV hr (by decide) rfl (pa_cons (pv 0) (pa_cons (pe_ix ix_tup (pv 7) pe_int (fun _ _ => rfl)) (pa_cons (pv 9) pa_nil)))))
          (pss_one (ps_ret (pe_tup (pa_cons (pv 6) (pa_cons (pv 9) (pa_cons (pv 10) (pa_cons (pcall GR hr (by decide) rfl (pa_cons (pv 0) (pa_cons (pe_ix ix_tup (pv 7) pe_int (fun _ _ => rfl)) pa_nil))) pa_nil))))))))) pss_nil)
      (pss_one (ps_ret (pe_tup (pa_cons (pv 6) (pa_cons (pcall GR hr (by decide) rfl (pa_cons (pv 0) (pa_cons (pe_ix ix_tup (pv 7) pe_int (fun _ _ => rfl)) pa_nil))) pa_nil)))))))))))), ?_⟩
    obtain ⟨z, hz, hcut⟩ := cut_at h2
    refine ⟨by show 7 ≤ sizeLine; decide, fun kl hkl0 => ⟨by show 3 ≤ sizeLine; decide, fun il hil => ⟨_, rfl, il, _, (reads : Int), .int z, rfl, rfl, .inl (.inl upd_same), atI_nat hz, z, rfl, kl, allK, rfl, ?_, fun kp hkp => ?_⟩⟩⟩
    · have : kl ≠ il := fun e => by rw [← e, upd_same] at hil; cases hil
      exact .inl (.inl (by rw [upd_ne this, upd_same]; rfl))
    have s01 := ((Same.new hkl0).trans (Same.new hil)).trans (Same.new (o := .lst (cutV allK none (some z))) hkp)
    have hk1 : upd (upd (upd H kl (.lst allK)) il (.lst [.int 4, .int 6, .int 7])) kp (.lst (cutV allK none (some z))) kp = some (.lst ((kindsL reads).map V.str)) := by rw [upd_same, hcut]
    have eh : upd (upd (upd H kl (.lst [.str "flat", .str "left", .str "above", .str "slope", .str "as", .str "moved", .str "both"])) il (.lst [.int 4, .int 6, .int 7])) kp (.lst (cutV allK none (some z))) = upd (upd (upd H kl (.lst allK)) il (.lst [.int 4, .int 6, .int 7])) kp (.lst (cutV allK none (some z))) := rfl
    have s01 : Same H (upd (upd (upd H kl (.lst allK)) il (.lst [.int 4, .int 6, .int 7])) kp (.lst (cutV allK none (some z)))) := s01
    show gName 4 (V.ref kp) _ (upd (upd (upd H kl (.lst allK)) il (.lst [.int 4, .int 6, .int 7])) kp (.lst (cutV allK none (some z)))) _
    generalize upd (upd (upd H kl (.lst allK)) il (.lst [.int 4, .int 6, .int 7])) kp (.lst (cutV allK none (some z))) = H1 at s01 hk1
    have C1 := C.same s01
    have hg1 : IsV K H1 gx g := IsV.tk s01.tk hg
    have hkl := kindsL_len h2
    have hkk : 4 ≤ kinds reads ∧ kinds reads ≤ 7 := kinds_ge reads
    refine ⟨_, rfl, rfl, _, rfl, iteT ?_⟩
    refine ⟨_, rfl, _, rfl, _, rfl, _, rfl, _, _, rfl, .inl ⟨_, .inl (.inl hk1), rfl⟩, _, _, rfl, rfl, ?_⟩
    rw [List.length_map, hkl]
    refine ⟨L, t, p, d, "kind", kinds reads - 1, s1, odd, rfl, by decide +kernel, by omega, by omega, C1, by omega, fun H2 C2 b2 => ?_⟩
    have nv := num_val (nm := MM.kind) (show 0 ≤ kinds reads - 1 by omega) (fn L) s1
    have nm' := num_m (nm := MM.kind) (show 0 ≤ kinds reads - 1 by omega) (by omega) (fn L) s1
    have C2 : LC K L t p d H2 (run (fn L) (numT MM.kind (kinds reads - 1)) s1).2 (odd || (run (fn L) (numT MM.kind (kinds reads - 1)) s1).1.2) := C2
    show rIxL _ (.ref kp) (.int (run (fn L) (numT MM.kind (kinds reads - 1)) s1).1.1) _ _
    generalize run (fn L) (numT MM.kind (kinds reads - 1)) s1 = r0 at C2 nv nm' q
    have k2 := C1.tk b2
    have hk2 := C1.keep b2 hk1
    have hg2 := hg1.tk k2
    have b02 : But p d H H2 := (But.of_same s01).trans b2
    obtain ⟨k, ek⟩ : ∃ k : Nat, r0.1.1 = (k : Int) := ⟨r0.1.1.toNat, by omega⟩
    obtain ⟨⟨kv, ko⟩, s2⟩ := r0
    have ek : kv = (k : Int) := ek
    subst ek
    have nv : 0 ≤ (k : Int) ∧ (k : Int) ≤ kinds reads - 1 := nv
    have nm' : s2.m ≤ s1.m + 24 := nm'
    have C2 : LC K L t p d H2 s2 (odd || ko) := C2
    have q : ∀ y H', LC K L t p d H' (run (fn L) (brT reads g (k : Int)) s2).2 (odd || (ko || (run (fn L) (brT reads g (k : Int)) s2).1.2)) → But p d H H' → IsCh K H' y (run (fn L) (brT reads g (k : Int)) s2).1.1 → Q y H' := q
    rw [← Bool.or_assoc] at q
    generalize (odd || ko) = o2 at q C2
    have hat : ((kindsL reads).map V.str)[k]? = some (.str (kN k)) := by rw [List.getElem?_map, kN_at h2 nv.2]; rfl
    refine ⟨kp, _, _, _, rfl, rfl, .inl (.inl hk2), atI_nat hat, ?_⟩
    refine ⟨_, rfl, false, rfl, iteF ⟨by show 1 ≤ sizeLine; decide, fun u0 hu0 => ⟨u0, 4, [.non], rfl, rfl, .inl (.inl upd_same), by simp, by decide, by decide, by decide, fun pt hpt => ⟨_, _, rfl, ?_⟩⟩⟩⟩
    have sp : Same H2 (upd (upd H2 u0 (.tup [.non])) pt (.tup [.non, .non, .non, .non])) := (Same.new hu0).trans (Same.new hpt)
    have eh4 : upd (upd H2 u0 (.tup [.non])) pt (.tup (List.replicate (Int.toNat 4) [V.non]).flatten) = upd (upd H2 u0 (.tup [.non])) pt (.tup [.non, .non, .non, .non]) := rfl
    rw [eh4]
    have hp4 : SqT K (upd (upd H2 u0 (.tup [.non])) pt (.tup [.non, .non, .non, .non])) pt [.non, .non, .non, .non] := .inl (.inl upd_same)
    generalize upd (upd H2 u0 (.tup [.non])) pt (.tup [.non, .non, .non, .non]) = Hp4 at sp hp4
    refine ⟨_, rfl, by show 2 ≤ sizeLine; decide, fun tp htp => ?_⟩
    have sT : Same H2 (upd Hp4 tp (.lst [.str "as", .str "moved"])) := sp.trans (Same.new htp)
    have tt : SqL K (upd Hp4 tp (.lst [.str "as", .str "moved"])) tp ((["as", "moved"] : List Str).map V.str) := .inl (.inl upd_same)
    have C3 := C2.same sT
    have hg3 : IsV K (upd Hp4 tp (.lst [.str "as", .str "moved"])) gx g := hg2.tk sT.tk
    have b03 := b02.trans (But.of_same sT)
    have hp3 : SqT K (upd Hp4 tp (.lst [.str "as", .str "moved"])) pt [.non, .non, .non, .non] := (Same.new htp : Same Hp4 _).seqT hp4
    generalize upd Hp4 tp (.lst [.str "as", .str "moved"]) = H3 at tt C3 hg3 b03 hp3
    refine ⟨tp, _, rfl, .inl tt, rfl, rfl, ?_⟩
    rw [if_neg Bool.false_ne_true]
    rcases (show k < 4 ∨ k = 4 ∨ k = 5 ∨ k = 6 by omega) with h4 | rfl | rfl | rfl
    · have e1 : kN k = bes k := if_pos h4
      have e2 : brT reads g (k : Int) = bindO (restT MM) fun r => retO (.bes (k : Int).toNat r) := by
        unfold brT
        rw [if_neg (by omega), if_neg (by omega), if_neg (by omega)]
      rw [e2, run_bindO] at q
      have q : ∀ y H', LC K L t p d H' (run (fn L) (restT MM) s2).2 (o2 || ((run (fn L) (restT MM) s2).1.2 || false)) → But p d H H' → IsCh K H' y (.bes (k : Int).toNat (run (fn L) (restT MM) s2).1.1) → Q y H' := q
      rw [Int.toNat_natCast, Bool.or_false] at q
      rw [e1]
      have ei : inV (.str (bes k)) ((["as", "moved"] : List Str).map V.str) = false := inV_not (by have := bes_not k; simp [this.1, this.2.1])
      rw [ei]
      refine ⟨_, rfl, iteF ?_⟩
      refine ⟨_, rfl, rfl, _, rfl, ite2 (fun cc => absurd (V.str.inj (of_decide_eq_true cc)) (bes_not k).1) (fun _ => ?_)⟩
      refine ⟨_, rfl, rfl, _, rfl, ite2 (fun cc => absurd (V.str.inj (of_decide_eq_true cc)) (bes_not k).2.1) (fun _ => ?_)⟩
      refine ⟨_, rfl, rfl, _, rfl, ite2 (fun cc => absurd (V.str.inj (of_decide_eq_true cc)) (bes_not k).2.2) (fun _ => ?_)⟩
      refine ⟨_, rfl, _, rfl, _, rfl, pt, _, 1, .non, rfl, rfl, hp3, atI_nat (j := 1) rfl, L, t, p, d, s2, o2, rfl, C3, by omega, fun y H4 C4 b4 hy => ⟨by show 2 ≤ sizeLine; decide, fun u hu => ?_⟩⟩
      exact q _ _ (C4.same (Same.new hu)) ((b03.trans b4).trans (But.of_same (Same.new hu))) ⟨u, _, rfl, .inl (.inl upd_same), y, rfl, hy.tk (Same.new hu).tk⟩
    · have e1 : kN 4 = "as" := by decide +kernel
      have e2 : brT reads g ((4 : Nat) : Int) = bindO (whichT MM reads) fun w => retO (.as w) := rfl
      rw [e2, run_bindO] at q
      have q : ∀ y H', LC K L t p d H' (run (fn L) (whichT MM reads) s2).2 (o2 || ((run (fn L) (whichT MM reads) s2).1.2 || false)) → But p d H H' → IsCh K H' y (.as (run (fn L) (whichT MM reads) s2).1.1) → Q y H' := q
      rw [run_which, Bool.or_false] at q
      rw [e1, inV_str (show ("as" : Str) ∈ (["as", "moved"] : List Str) by decide +kernel)]
      refine ⟨_, rfl, iteT ?_⟩
      refine ⟨_, rfl, rfl, _, rfl, ?_⟩
      by_cases c2 : reads = 2
      · rw [if_pos c2] at q
        rw [decide_eq_true (show V.int (reads : Int) = V.int 2 by rw [c2]; rfl)]
        refine iteT ?_
        refine ⟨_, rfl, _, rfl, pt, _, 1, .non, rfl, rfl, hp3, atI_nat (j := 1) rfl, L, t, p, d, some MM.which, s2, o2, rfl, C3, by omega, fun H4 C4 b4 => ?_⟩
        refine ⟨_, rfl, rfl, _, rfl, ite2 (fun _ => ?_) (fun cc => absurd (decide_eq_true rfl) cc)⟩
        refine ⟨_, rfl, _, rfl, by show 2 ≤ sizeLine; decide, fun u hu => ?_⟩
        refine q _ _ ?_ ((b03.trans b4).trans (But.of_same (Same.new hu))) ⟨u, _, rfl, .inl (.inl upd_same), rfl⟩
        rw [Bool.or_false]
        exact C4.same (Same.new hu)
      · rw [if_neg c2] at q
        rw [decide_eq_false (fun h => c2 (by have := V.int.inj h; omega))]
        refine iteF ?_
        refine ⟨_, rfl, rfl, _, rfl, ite2 (fun _ => ?_) (fun cc => absurd (decide_eq_true rfl) cc)⟩
        refine ⟨_, rfl, _, rfl, by show 2 ≤ sizeLine; decide, fun u hu => ?_⟩
        refine q _ _ ?_ (b03.trans (But.of_same (Same.new hu))) ⟨u, _, rfl, .inl (.inl upd_same), rfl⟩
        rw [Bool.or_false]
        exact C3.same (Same.new hu)
    · have e1 : kN 5 = "moved" := by decide +kernel
      have e2 : brT reads g ((5 : Nat) : Int) = bindO (whichT MM reads) fun w => bindO (vecT MM g) fun v => bindO (restT MM) fun r => retO (.mov w v r) := rfl
      rw [e2, run_bindO, run_bindO, run_bindO] at q
      have q : ∀ y H', LC K L t p d H' (run (fn L) (restT MM) (run (fn L) (vecT MM g) (run (fn L) (whichT MM reads) s2).2).2).2 (o2 || ((run (fn L) (whichT MM reads) s2).1.2 || ((run (fn L) (vecT MM g) (run (fn L) (whichT MM reads) s2).2).1.2 || ((run (fn L) (restT MM) (run (fn L) (vecT MM g) (run (fn L) (whichT MM reads) s2).2).2).1.2 || false)))) → But p d H H' →
        IsCh K H' y (.mov (run (fn L) (whichT MM reads) s2).1.1 (run (fn L) (vecT MM g) (run (fn L) (whichT MM reads) s2).2).1.1 (run (fn L) (restT MM) (run (fn L) (vecT MM g) (run (fn L) (whichT MM reads) s2).2).2).1.1) → Q y H' := q
      rw [run_which] at q
      rw [e1, inV_str (show ("moved" : Str) ∈ (["as", "moved"] : List Str) by decide +kernel)]
      refine ⟨_, rfl, iteT ?_⟩
      refine ⟨_, rfl, rfl, _, rfl, ?_⟩
      by_cases c2 : reads = 2
      · rw [if_pos c2] at q
        rw [decide_eq_true (show V.int (reads : Int) = V.int 2 by rw [c2]; rfl)]
        refine iteT ?_
        refine ⟨_, rfl, _, rfl, pt, _, 1, .non, rfl, rfl, hp3, atI_nat (j := 1) rfl, L, t, p, d, some MM.which, s2, o2, rfl, C3, by omega, fun H4 C4 b4 => ?_⟩
        have hg4 := hg3.tk (C3.tk b4)
        have hp4 := C3.tk b4 _ _ hp3
        have b04 := b03.trans b4
        have m4 : (step (some MM.which) (rd (fn L) (some MM.which) s2) s2).m = s2.m + 1 := step_m _ _ _
        have C4 : LC K L t p d H4 (step (some MM.which) (rd (fn L) (some MM.which) s2) s2) o2 := C4
        have q : ∀ y H', LC K L t p d H' (run (fn L) (restT MM) (run (fn L) (vecT MM g) (step (some MM.which) (rd (fn L) (some MM.which) s2) s2)).2).2 (o2 || (false || ((run (fn L) (vecT MM g) (step (some MM.which) (rd (fn L) (some MM.which) s2) s2)).1.2 || ((run (fn L) (restT MM) (run (fn L) (vecT MM g) (step (some MM.which) (rd (fn L) (some MM.which) s2) s2)).2).1.2 || false)))) → But p d H H' →
          IsCh K H' y (.mov (rd (fn L) (some MM.which) s2) (run (fn L) (vecT MM g) (step (some MM.which) (rd (fn L) (some MM.which) s2) s2)).1.1 (run (fn L) (restT MM) (run (fn L) (vecT MM g) (step (some MM.which) (rd (fn L) (some MM.which) s2) s2)).2).1.1) → Q y H' := q
        rw [or3] at q
        generalize step (some MM.which) (rd (fn L) (some MM.which) s2) s2 = s4 at C4 m4 q
        refine ⟨_, rfl, rfl, _, rfl, ite2 (fun cc => absurd (V.str.inj (of_decide_eq_true cc)) (by decide +kernel)) (fun _ => ?_)⟩
        refine ⟨_, rfl, rfl, _, rfl, ite2 (fun _ => ?_) (fun cc => absurd (decide_eq_true rfl) cc)⟩
        have mv := vec_m (fn L) g s4
        refine ⟨_, rfl, _, rfl, pt, _, 2, .non, rfl, rfl, hp4, atI_nat (j := 2) rfl, _, rfl, L, t, p, d, gx, g, s4, o2, rfl, hg4, C4, by omega, fun v H5 C5 b5 hv => ?_⟩
        have hp5 := C4.tk b5 _ _ hp4
        generalize run (fn L) (vecT MM g) s4 = rv at C5 q mv hv
        refine ⟨_, rfl, _, rfl, _, rfl, _, rfl, _, rfl, pt, _, 3, .non, rfl, rfl, hp5, atI_nat (j := 3) rfl, L, t, p, d, rv.2, _, rfl, C5, by omega, fun y H6 C6 b6 hy => ⟨by show 4 ≤ sizeLine; decide, fun u hu => ?_⟩⟩
        have hv6 := hv.tk (C5.tk b6)
        exact q _ _ (C6.same (Same.new hu)) (((b04.trans b5).trans b6).trans (But.of_same (Same.new hu))) ⟨u, _, rfl, .inl (.inl upd_same), v, y, rfl, hv6.tk (Same.new hu).tk, hy.tk (Same.new hu).tk⟩
      · rw [if_neg c2] at q
        rw [decide_eq_false (fun h => c2 (by have := V.int.inj h; omega))]
        refine iteF ?_
        have hg4 := hg3
        have hp4 := hp3
        have b04 := b03
        have C4 := C3
        obtain ⟨s4, e4⟩ : ∃ s4, s4 = s2 := ⟨_, rfl⟩
        have m4 : s4.m ≤ s2.m + 1 := by rw [e4]; omega
        have q : ∀ y H', LC K L t p d H' (run (fn L) (restT MM) (run (fn L) (vecT MM g) s2).2).2 (o2 || (false || ((run (fn L) (vecT MM g) s2).1.2 || ((run (fn L) (restT MM) (run (fn L) (vecT MM g) s2).2).1.2 || false)))) → But p d H H' →
          IsCh K H' y (.mov false (run (fn L) (vecT MM g) s2).1.1 (run (fn L) (restT MM) (run (fn L) (vecT MM g) s2).2).1.1) → Q y H' := q
        rw [or3] at q
        rw [← e4] at C4 q
        refine ⟨_, rfl, rfl, _, rfl, ite2 (fun cc => absurd (V.str.inj (of_decide_eq_true cc)) (by decide +kernel)) (fun _ => ?_)⟩
        refine ⟨_, rfl, rfl, _, rfl, ite2 (fun _ => ?_) (fun cc => absurd (decide_eq_true rfl) cc)⟩
        have mv := vec_m (fn L) g s4
        refine ⟨_, rfl, _, rfl, pt, _, 2, .non, rfl, rfl, hp4, atI_nat (j := 2) rfl, _, rfl, L, t, p, d, gx, g, s4, o2, rfl, hg4, C4, by omega, fun v H5 C5 b5 hv => ?_⟩
        have hp5 := C4.tk b5 _ _ hp4
        generalize run (fn L) (vecT MM g) s4 = rv at C5 q mv hv
        refine ⟨_, rfl, _, rfl, _, rfl, _, rfl, _, rfl, pt, _, 3, .non, rfl, rfl, hp5, atI_nat (j := 3) rfl, L, t, p, d, rv.2, _, rfl, C5, by omega, fun y H6 C6 b6 hy => ⟨by show 4 ≤ sizeLine; decide, fun u hu => ?_⟩⟩
        have hv6 := hv.tk (C5.tk b6)
        exact q _ _ (C6.same (Same.new hu)) (((b04.trans b5).trans b6).trans (But.of_same (Same.new hu))) ⟨u, _, rfl, .inl (.inl upd_same), v, y, rfl, hv6.tk (Same.new hu).tk, hy.tk (Same.new hu).tk⟩
    · have e1 : kN 6 = "both" := by decide +kernel
      have e2 : brT reads g ((6 : Nat) : Int) = bindO (vecT MM g) fun v => bindO (vecT MM v) fun u => bindO (restT MM) fun r => retO (.both v u r) := rfl
      rw [e2, run_bindO, run_bindO, run_bindO] at q
      have q : ∀ y H', LC K L t p d H' (run (fn L) (restT MM) (run (fn L) (vecT MM (run (fn L) (vecT MM g) s2).1.1) (run (fn L) (vecT MM g) s2).2).2).2 (o2 || ((run (fn L) (vecT MM g) s2).1.2 || ((run (fn L) (vecT MM (run (fn L) (vecT MM g) s2).1.1) (run (fn L) (vecT MM g) s2).2).1.2 || ((run (fn L) (restT MM) (run (fn L) (vecT MM (run (fn L) (vecT MM g) s2).1.1) (run (fn L) (vecT MM g) s2).2).2).1.2 || false)))) → But p d H H' →
        IsCh K H' y (.both (run (fn L) (vecT MM g) s2).1.1 (run (fn L) (vecT MM (run (fn L) (vecT MM g) s2).1.1) (run (fn L) (vecT MM g) s2).2).1.1 (run (fn L) (restT MM) (run (fn L) (vecT MM (run (fn L) (vecT MM g) s2).1.1) (run (fn L) (vecT MM g) s2).2).2).1.1) → Q y H' := q
      rw [or4] at q
      have ei : inV (.str "both") ((["as", "moved"] : List Str).map V.str) = false := inV_not (by decide +kernel)
      rw [e1, ei]
      refine ⟨_, rfl, iteF ?_⟩
      refine ⟨_, rfl, rfl, _, rfl, ite2 (fun cc => absurd (V.str.inj (of_decide_eq_true cc)) (by decide +kernel)) (fun _ => ?_)⟩
      refine ⟨_, rfl, rfl, _, rfl, ite2 (fun cc => absurd (V.str.inj (of_decide_eq_true cc)) (by decide +kernel)) (fun _ => ?_)⟩
      refine ⟨_, rfl, rfl, _, rfl, ite2 (fun _ => ?_) (fun cc => absurd (decide_eq_true rfl) cc)⟩
      have mv1 := vec_m (fn L) g s2
      refine ⟨_, rfl, _, rfl, pt, _, 1, .non, rfl, rfl, hp3, atI_nat (j := 1) rfl, _, rfl, L, t, p, d, gx, g, s2, o2, rfl, hg3, C3, by omega, fun v H5 C5 b5 hv => ?_⟩
      have hp5 := C3.tk b5 _ _ hp3
      generalize run (fn L) (vecT MM g) s2 = rv at C5 q mv1 hv
      have mv2 := vec_m (fn L) rv.1.1 rv.2
      refine ⟨_, rfl, _, rfl, pt, _, 2, .non, rfl, rfl, hp5, atI_nat (j := 2) rfl, _, rfl, L, t, p, d, v, rv.1.1, rv.2, _, rfl, hv, C5, by omega, fun u H6 C6 b6 hu6 => ?_⟩
      have hv6 := hv.tk (C5.tk b6)
      have hp6 := C5.tk b6 _ _ hp5
      generalize run (fn L) (vecT MM rv.1.1) rv.2 = ru at C6 q mv2 hu6
      refine ⟨_, rfl, _, rfl, _, rfl, _, rfl, _, rfl, pt, _, 3, .non, rfl, rfl, hp6, atI_nat (j := 3) rfl, L, t, p, d, ru.2, _, rfl, C6, by omega, fun y H7 C7 b7 hy => ⟨by show 4 ≤ sizeLine; decide, fun z hz => ?_⟩⟩
      have k7 := C6.tk b7
      exact q _ _ (C7.same (Same.new hz)) ((((b03.trans b5).trans b6).trans b7).trans (But.of_same (Same.new hz))) ⟨z, _, rfl, .inl (.inl upd_same), v, u, y, rfl, (hv6.tk k7).tk (Same.new hz).tk, (hu6.tk k7).tk (Same.new hz).tk, hy.tk (Same.new hz).tk⟩
end K4
namespace K4
open PySem PySem.Spec PyProof.Rows L2
variable {P : Program} {w : World} {K : PySem.W.Frag} {mg : Str → Option Value} {base : Heap}
/-! ### _law_all_told, _law_read -/
def spAllT (K : PySem.W.Frag) : Sp := fun vs H Q _ => ∃ (L : List Int) (t p d : Addr) (m reads : Nat), vs = [.ref p, .non, .int m, .int m, .int reads] ∧ 1 ≤ m ∧ m ≤ 2 ∧ reads ≤ 2 ∧ LC K L t p d H s0 false ∧
  ∀ y H' s', LC K L t p d H' s' (readAll MM reads m L).2 → But p d H H' → IsCt K H' y (readAll MM reads m L).1 → Q y H'
theorem sc_allt : FnScope ["_law_coder_here", "_law_choices", "_law_many", "_law_across", "_law_reads", "_law_found", "_law_vectors", "_law_k", "_law_guess", "_law_one"] ["_law_coder_here", "_law_choices", "_law_many", "_law_across", "_law_reads"] (defScope s_law_all_told) := ⟨rfl, rfl, rfl, by decide +kernel, rfl, by decide +kernel, by decide +kernel⟩
theorem d_allt (B : Bt mg) (D : Df K mg "_law_all_told" s_law_all_told) (GG : Dk P w K mg base CX0 1 "_law_vector" ["_law_vectors", "_law_k", "_law_across"] (spGuess K)) (GT : Dk P w K mg base CX0 4 "_law_told" ["_law_coder_here", "_law_choice", "_law_guess", "_law_reads"] (spTold K))
    (GF : Dk P w K mg base CX0 1 "_law_counts_by" ["_law_one", "_law_guess"] (spFirst K)) : Dk P w K mg base CX0 5 "_law_all_told" ["_law_coder_here", "_law_choices", "_law_many", "_law_across", "_law_reads"] (spAllT K) := by
  refine Dk.mk' D sc_allt (fun _ _ _ _ _ _ us hl => match us, hl with | [_, _, _, _, _], _ => rfl) (fun vs H Q E h => ?_) (fun cdv A outer s H vs Q E hr h => ?_)
  · obtain ⟨L, t, p, d, m, reads, rfl, _⟩ := h
    rfl
  · obtain ⟨L, t, p, d, m, reads, rfl, hm1, hm2, h2, C, q⟩ := h
    refine ⟨_, pss_cons (ps_par (i := 5) (j := 6) (by rfl) sc_allt.nd rfl rfl (by decide) rfl rfl (pa_cons (pe_lst pa_nil) (pa_cons (pe_lst pa_nil) pa_nil)) (by rfl))
      (pss_cons (ps_for PassesOwn.never rfl (pi_range1 rfl B.range (pa_cons (pv 2) pa_nil)) (pg_name (i := 7) sc_allt.nd rfl (.inl rfl))
        (pss_cons (ps_set (i := 8) sc_allt.nd rfl (.inl rfl) (pcall GG hr (by decide) rfl (pa_cons (pv 6) (pa_cons (pv 7) (pa_cons (pv 3) pa_nil)))))
        (pss_cons (ps_set (i := 9) sc_allt.nd rfl (.inl rfl) (pcall GT hr (by decide) rfl (pa_cons (pv 0) (pa_cons (pe_ifExp (pt_cmpR op_isN (pv 1) pe_non (nomark _)) pe_non (pe_ix ix_tup (pv 1) (pv 7) (fun _ _ => rfl))) (pa_cons (pv 8) (pa_cons (pv 4) pa_nil))))))
        (pss_cons (ps_expr (pe_bm PySem.F.plainAttrs_list PySem.F.slot_list_append PySem.F.type_list_append mt_append (pv 5) (pa_cons (pv 9) pa_nil)))
        (pss_one (ps_expr (pe_bm PySem.F.plainAttrs_list PySem.F.slot_list_append PySem.F.type_list_append mt_append (pv 6) (pa_cons (pcall GF hr (by decide) rfl (pa_cons (pv 9) (pa_cons (pv 8) pa_nil))) pa_nil))))))))
      (pss_one (ps_ret (pT call_tuple_of B.tuple (pa_cons (pv 5) pa_nil))))), ?_⟩
    refine ⟨by show 0 ≤ sizeLine; decide, fun fl hfl => ⟨by show 0 ≤ sizeLine; decide, fun vl hvl => ⟨_, _, rfl, ?_⟩⟩⟩
    have nvf : fl ≠ vl := fun e => by rw [← e, upd_same] at hvl; cases hvl
    have hvl0 : H vl = none := by rw [upd_ne nvf.symm] at hvl; exact hvl
    have s4 : Same H (upd (upd H fl (.lst [])) vl (.lst [])) := (Same.new hfl).trans (Same.new hvl)
    have C4 := C.same s4
    refine ⟨_, rfl, (m : Int), rfl, by omega, by omega, ?_⟩
    rw [Int.toNat_natCast]
    refine for_range (lo := 0) (n := m) (fun i σ H' => ∃ (z1 z2 z3 : Option V) (si : CS Str) (oi : Bool) (li : Option Vec) (ys fs : List V) (ci : List Ch), σ = [some (.ref p), some .non, some (.int m), some (.int m), some (.int reads), some (.ref fl), some (.ref vl), z1, z2, z3] ∧ But p d H H' ∧ LC K L t p d H' si oi ∧ H' vl = some (.lst ys) ∧ H' fl = some (.lst fs) ∧
        (IsCs K H' fs ci ∧ ci.length = i ∧ (i < m → VsAt K H' ys i li) ∧ si.m ≤ 422 * i ∧ ci ++ (run (fn L) (allT MM reads (m - i) li) si).1.1 = (readAll MM reads m L).1 ∧ (oi || (run (fn L) (allT MM reads (m - i) li) si).1.2) = (readAll MM reads m L).2)) ⟨none, none, none, s0, false, none, [], [], [], rfl, But.of_same s4, C4, upd_same, by rw [upd_ne nvf, upd_same], .nil, rfl, fun _ => .inl ⟨rfl, rfl, rfl⟩, Nat.zero_le _, rfl, rfl⟩ ?_ ?_
    · rintro i σ H' hi ⟨z1, z2, z3, si, oi, li, ys, fs, ci, rfl, b4, Ci, hv1, hf1, hcs, hcl, hv, hmi, he, he2⟩
      have hfs : fs.length = i := hcs.len.trans hcl
      refine ⟨_, rfl, _, rfl, _, rfl, vl, i, m, li, ys, ?_, hi, hm2, hv1, hv hi, fun g H5 s5 hg => ?_⟩
      · show [V.ref vl, V.int (0 + (i : Nat)), V.int (m : Int)] = [.ref vl, .int i, .int m]
        rw [Int.zero_add]
      have C5 := Ci.same s5
      have b5 := b4.trans (But.of_same s5)
      have hf5 := s5 _ _ hf1
      refine ⟨_, rfl, _, rfl, rfl, _, rfl, iteT ⟨_, rfl, _, rfl, L, t, p, d, g, gs li, reads, si, oi, rfl, h2, hg, C5, by omega, fun y H6 C6 b6 hy => ?_⟩⟩
      have b06 := b5.trans b6
      have hf6 := C5.keep b6 hf5
      have hv6 := C5.keep b6 (s5 _ _ hv1)
      have k6 := C5.tk b6
      have mc := choice_m (fn L) reads (gs li) si
      have hmi1 : m - i = (m - (i + 1)) + 1 := by omega
      rw [hmi1] at he he2
      unfold allT at he he2
      rw [run_bindO, run_bindO] at he he2
      have he : ci ++ (run (fn L) (choiceT MM reads (gs li)) si).1.1 :: (run (fn L) (allT MM reads (m - (i + 1)) (fv (run (fn L) (choiceT MM reads (gs li)) si).1.1 (gs li))) (run (fn L) (choiceT MM reads (gs li)) si).2).1.1 = (readAll MM reads m L).1 := he
      have he2 : (oi || ((run (fn L) (choiceT MM reads (gs li)) si).1.2 || ((run (fn L) (allT MM reads (m - (i + 1)) (fv (run (fn L) (choiceT MM reads (gs li)) si).1.1 (gs li))) (run (fn L) (choiceT MM reads (gs li)) si).2).1.2 || false))) = (readAll MM reads m L).2 := he2
      rw [Bool.or_false, ← Bool.or_assoc] at he2
      generalize run (fn L) (choiceT MM reads (gs li)) si = rc at C6 hy mc he he2
      have hlf : H fl = none := hfl
      have nf6 : fl ≠ vl := nvf
      refine ⟨_, rfl, .inl ⟨rfl, _, .inl (.inl hf6)⟩, _, rfl, fl, fs, y, rfl, rfl, hf6, n_size (by omega), ?_⟩
      have kf : TK K H6 (upd H6 fl (.lst (fs ++ [y]))) := TK.upd (by rw [hf6]; trivial)
      have C7 := C6.lst (o := .lst (fs ++ [y])) hf6
      have b7 : But p d H (upd H6 fl (.lst (fs ++ [y]))) := but_lst hfl b06
      have hf7 : upd H6 fl (.lst (fs ++ [y])) fl = some (.lst (fs ++ [y])) := upd_same
      have hv7 : upd H6 fl (.lst (fs ++ [y])) vl = some (.lst ys) := by rw [upd_ne nf6.symm]; exact hv6
      have hy7 : IsCh K (upd H6 fl (.lst (fs ++ [y]))) y rc.1.1 := hy.tk kf
      have hg7 : IsV K (upd H6 fl (.lst (fs ++ [y]))) g (gs li) := (hg.tk k6).tk kf
      have hcs7 : IsCs K (upd H6 fl (.lst (fs ++ [y]))) fs ci := ((hcs.tk s5.tk).tk k6).tk kf
      generalize upd H6 fl (.lst (fs ++ [y])) = H7 at C7 b7 hf7 hv7 hy7 hg7 hcs7
      refine ⟨_, rfl, .inl ⟨rfl, _, .inl (.inl hv7)⟩, _, rfl, _, rfl, y, g, rc.1.1, gs li, rfl, hy7, hg7, fun v H8 s8 hv8 => ?_⟩
      have hys : ys.length < sizeLine := by
        rcases hv hi with ⟨_, h, _⟩ | ⟨_, z, h, _⟩
        · rw [h]; show 0 < sizeLine; decide
        · rw [h]; show 1 < sizeLine; decide
      have hvl8 := s8 _ _ hv7
      have kv : TK K H8 (upd H8 vl (.lst (ys ++ [v]))) := TK.upd (by rw [hvl8]; trivial)
      refine ⟨vl, ys, v, rfl, rfl, hvl8, hys, _, _, _, rc.2, (oi || rc.1.2), fv rc.1.1 (gs li), ys ++ [v], fs ++ [y], ci ++ [rc.1.1], rfl, but_lst hvl0 (b7.trans (But.of_same s8)), (C7.same s8).lst hvl8, upd_same, by rw [upd_ne nf6]; exact s8 _ _ hf7, ?_, by rw [List.length_append, hcl]; rfl, ?_, by omega, ?_, he2⟩
      · exact ((hcs7.tk s8.tk).tk kv).snoc ((hy7.tk s8.tk).tk kv)
      · intro hi2
        have hi0 : i = 0 := by omega
        subst hi0
        obtain ⟨_, rfl, _⟩ : 0 = 0 ∧ ys = [] ∧ li = none := by
          rcases hv hi with h | ⟨h, _⟩
          · exact h
          · omega
        exact .inr ⟨rfl, v, rfl, IsOV.tk kv hv8⟩
      · rw [List.append_assoc]
        exact he
    · rintro σ H' ⟨z1, z2, z3, si, oi, li, ys, fs, ci, rfl, b4, Ci, hv1, hf1, hcs, hcl, hv, hmi, he, he2⟩
      rw [Nat.sub_self] at he he2
      have he : ci ++ [] = (readAll MM reads m L).1 := he
      have he2 : (oi || false) = (readAll MM reads m L).2 := he2
      rw [List.append_nil] at he
      rw [Bool.or_false] at he2
      rw [← he, ← he2] at q
      exact ⟨_, rfl, fl, _, rfl, .inl ⟨.inl (.inl hf1), fun u hu => q _ _ _ (Ci.same (Same.new hu)) (b4.trans (But.of_same (Same.new hu))) ⟨u, fs, rfl, .inl (.inl upd_same), hcs.tk (Same.new hu).tk⟩⟩⟩
def spRead (K : PySem.W.Frag) : Sp := fun vs H Q _ => ∃ (t : Addr) (L : List Int) (m reads : Nat), vs = [.ref t, .int ((4 * m : Nat) : Int), .int reads] ∧ 1 ≤ m ∧ m ≤ 2 ∧ reads ≤ 2 ∧ SqT K H t (L.map V.int) ∧
  ∀ u y H', Same H H' → SqT K H' u [y, .bl (readAll MM reads m L).2] → IsCt K H' y (readAll MM reads m L).1 → Q (.ref u) H'
theorem sc_read : FnScope ["_law_some", "_law_wide", "_law_reads", "_law_coder_here", "_law_found"] ["_law_some", "_law_wide", "_law_reads"] (defScope s_law_read) := ⟨rfl, rfl, rfl, by decide +kernel, rfl, by decide +kernel, by decide +kernel⟩
theorem d_read (D : Df K mg "_law_read" s_law_read) (GC : Dk P w K mg base CX0 1 "_law_coder" ["_law_letters"] (spCoder K)) (GA : Dk P w K mg base CX0 5 "_law_all_told" ["_law_coder_here", "_law_choices", "_law_many", "_law_across", "_law_reads"] (spAllT K)) :
    Dk P w K mg base CX0 6 "_law_read" ["_law_some", "_law_wide", "_law_reads"] (spRead K) := by
  refine Dk.mk' D sc_read (fun _ _ _ _ _ _ us hl => match us, hl with | [_, _, _], _ => rfl) (fun vs H Q E h => ?_) (fun cdv A outer s H vs Q E hr h => ?_)
  · obtain ⟨t, L, m, reads, rfl, _⟩ := h
    rfl
  · obtain ⟨t, L, m, reads, rfl, hm1, hm2, h2, ht, q⟩ := h
    refine ⟨_, pss_cons (ps_set (i := 3) sc_read.nd rfl (.inl rfl) (pcall GC hr (by decide) rfl (pa_cons (pv 0) pa_nil)))
      (pss_cons (ps_set (i := 4) sc_read.nd rfl (.inl rfl) (pcall GA hr (by decide) rfl (pa_cons (pv 3) (pa_cons pe_non (pa_cons (pe_op op_fdiv (pv 1) pe_int) (pa_cons (pe_op op_fdiv (pv 1) pe_int) (pa_cons (pv 2) pa_nil)))))))
      (pss_one (ps_ret (pe_tup (pa_cons (pv 4) (pa_cons (pe_dget (room1 hr) (pv 3) pe_str (fun _ _ => rfl)) pa_nil)))))), ?_⟩
    refine ⟨_, rfl, t, L, rfl, ht, fun p d H1 hp hd s1 C1 => ?_⟩
    refine ⟨_, rfl, _, rfl, _, _, rfl, rfl, ⟨by decide, by decide⟩, _, rfl, _, _, rfl, rfl, ⟨by decide, by decide⟩, _, rfl, L, t, p, d, m, reads, ?_, hm1, hm2, h2, C1, fun y H2 s2 C2 b2 hy => ?_⟩
    · show [V.ref p, V.non, V.int (((4 * m : Nat) : Int) / 4), V.int (((4 * m : Nat) : Int) / 4), V.int reads] = [.ref p, .non, .int m, .int m, .int reads]
      rw [show (((4 * m : Nat) : Int) / 4) = (m : Int) by omega]
    have sm : Same H H2 := same_but s1 b2 hp hd
    refine ⟨_, rfl, _, rfl, p, _, rfl, dget_of C2.hp lc_odd, by show 2 ≤ sizeLine; decide, fun u hu => ?_⟩
    exact q u y _ (sm.trans (Same.new hu)) (.inl (.inl upd_same)) (hy.tk (Same.new hu).tk)
end K4
namespace K4
open PySem PySem.Spec PyProof.Rows L2
variable {P : Program} {w : World} {K : PySem.W.Frag} {mg : Str → Option Value} {base : Heap}
/-! ### _law_told_of -/
def spToldOf (K : PySem.W.Frag) : Sp := fun vs H Q _ => ∃ (t : Addr) (L : List Int) (m reads : Nat), vs = [.ref t, .int ((4 * m : Nat) : Int), .int reads] ∧ 1 ≤ m ∧ m ≤ 2 ∧ reads ≤ 2 ∧ SqT K H t (L.map V.int) ∧ BytesL L ∧ L.length ≤ 10000 ∧
  (ownC MM reads (readAll MM reads m L).1 = L → ∀ u y H', Same H H' → SqT K H' u [y, .non] → IsCt K H' y (readAll MM reads m L).1 → Q (.ref u) H') ∧
  (ownC MM reads (readAll MM reads m L).1 ≠ L → ∀ u H', Same H H' → SqT K H' u [.non, .int (unl (ownC MM reads (readAll MM reads m L).1) L)] → Q (.ref u) H')
theorem sc_toldof : FnScope ["_law_some", "_law_wide", "_law_reads", "_law_found", "_law_error", "e"] ["_law_some", "_law_wide", "_law_reads"] (defScope s_law_told_of) := ⟨rfl, rfl, rfl, by decide +kernel, rfl, by decide +kernel, by decide +kernel⟩
theorem d_toldof {C : Addr} (D : Df K mg "_law_told_of" s_law_told_of) (T : XfC K C) (hno : PySem.W.findIn K (.ref C) "at" = some none) (gC : mg "BadLetters" = some (.ref C)) (ex : PySem.W.exmOne K (.ref C) (.ref C) = some true)
    (GF : Dk P w K mg base (L2.CX P w) 10 "choices_of" ["letters", "wide", "tall", "reads"] (spCof K C)) : Dk P w K mg base CX0 11 "_law_told_of" ["_law_some", "_law_wide", "_law_reads"] (spToldOf K) := by
  refine Dk.mk' D sc_toldof (fun _ _ _ _ _ _ us hl => match us, hl with | [_, _, _], _ => rfl) (fun vs H Q E h => ?_) (fun cdv A outer s H vs Q E hr h => ?_)
  · obtain ⟨t, L, m, reads, rfl, _⟩ := h
    rfl
  · obtain ⟨t, L, m, reads, rfl, hm1, hm2, h2, ht, hL, hLl, q1, q2⟩ := h
    obtain ⟨fdc, Fc, bc⟩ := GF.ok
    refine ⟨_, pss_cons (ps_asg (pe_tup (pa_cons pe_non (pa_cons pe_non pa_nil))) (pg_tup (by rfl) (pgs_cons (pg_name (i := 3) sc_toldof.nd rfl (.inl rfl)) (pgs_cons (pg_name (i := 4) sc_toldof.nd rfl (.inl rfl)) pgs_nil))))
      (pss_cons (ps_try_keep (i := 5) (tb := fun W => tAsg (tCallS (spCof K C) (WE W) (tCons (tVar 0) (tCons (tVar 1) (tCons (tC (.int 4)) (tCons (tVar 2) tNil))))) (gName 3)) (ts := fun _ _ _ => tAsg (tVar 5) (gName 4)) (Wout := fun _ _ _ _ => False) rfl rfl sc_toldof.nd rfl rfl ⟨rfl, by decide, Or.inl gC⟩ takes0
          (fun W pn xe tk _ => pss_one (ps_set (i := 3) sc_toldof.nd rfl (Or.inl rfl) (by exact (pe_callS Fc hr rfl GF.gl GF.kp bc (fun σ => passAt tk σ) (by exact (pa_cons (pv 0) (pa_cons (pv 1) (pa_cons pe_int (pa_cons (pv 2) pa_nil)))))))))
          (fun a oe cls d pn hz hf => pss_one (ps_set (i := 4) sc_toldof.nd rfl (Or.inl rfl) (pv 5))))
      (pss_one (ps_ret (pe_ifExp (pt_cmpR op_isN (pv 4) pe_non (nomark _)) (pe_tup (pa_cons (pv 3) (pa_cons pe_non pa_nil))) (pe_tup (pa_cons pe_non (pa_cons (pe_xk (f := "at") (pv 4)) pa_nil))))))), ?_⟩
    refine ⟨by show 2 ≤ sizeLine; decide, fun T0 hT0 => ⟨T0, _, rfl, .inl (.inl upd_same), rfl, _, _, rfl, _, _, rfl, rfl, ?_⟩⟩
    have s0 : Same H (upd H T0 (.tup [.non, .non])) := Same.new hT0
    generalize upd H T0 (.tup [.non, .non]) = H0 at s0
    refine ⟨_, rfl, _, rfl, _, rfl, t, L, m, reads, rfl, hm1, hm2, h2, s0.seqT ht, hL, hLl, fun e y H1 s1 hy => ?_, fun e d H1 hd s1 hdx => ?_⟩
    · refine ⟨_, rfl, rfl, _, rfl, iteT ⟨_, rfl, by show 2 ≤ sizeLine; decide, fun u hu => ?_⟩⟩
      exact q1 e u y _ ((s0.trans s1).trans (Same.new hu)) (.inl (.inl upd_same)) (hy.tk (Same.new hu).tk)
    · refine ⟨true, ex, fun _ a ha => ⟨_, rfl, ?_⟩, fun q => Bool.noConfusion q⟩
      have nda : d ≠ a := fun z => by rw [z, ha] at hdx; cases hdx
      refine ⟨_, rfl, rfl, _, rfl, iteF ⟨_, rfl, a, C, d, _, _, rfl, T, hno, upd_same, by rw [upd_ne nda]; exact hdx, rfl, by show 2 ≤ sizeLine; decide, fun u hu => ?_⟩⟩
      exact q2 e u _ (((s0.trans s1).more (none_of_same (s0.trans s1) ha)).trans (Same.new hu)) (.inl (.inl upd_same))
end K4
namespace K4
open PySem PySem.Spec PyProof.Rows L2
/-! ### (x,) * k, k small or nought -/
theorem tuple_mul0 (l : Addr) (items : Array Value) (n : Nat) (dd : Option Addr) (sl : Array (Option Value)) (x : Int) (u : Tok) (c0 : (decide (x < -(2 ^ 63)) || decide (x ≥ 2 ^ 63)) = false) (c1 : (items.isEmpty || x == 1) = false) (c2 : (decide (x ≤ 0) || items.isEmpty) = true) :
    Meets (Builtin.«tuple.__mul__» ⟨[.ref l, .int x u], []⟩) (fun _ R s => s.heap.get? l = some { cls := .type "tuple", dict := dd, data := .seq items n, slots := sl } ∧
      R (.ok (.ret (Value.ref s.heap.objs.size))) { s with heap := s.heap.push { cls := Value.type "tuple", data := Data.seq #[] }, toks := s.toks }) :=
  .of_wp fun prog w A R s h => by
    obtain ⟨hp, g, d, tk, os⟩ := s
    obtain ⟨hl, h⟩ := h
    have f1 := AutoSeq1.idx_int
    wp_walk using wpAny_loadPart' hl
    repeat (first
      | (refine wpAny_ite_false (decide_eq_false (by rw [c0]; exact Bool.false_ne_true)) ?_; wp_walk using wpAny_loadPart' hl)
      | (refine wpAny_ite_false (decide_eq_false (by rw [c1]; exact Bool.false_ne_true)) ?_; wp_walk using wpAny_loadPart' hl)
      | (refine wpAny_ite_true (decide_eq_true c2) ?_; wp_walk using wpAny_loadPart' hl))
    exact ⟨_, rfl, h⟩
theorem tuple_mul1 (l : Addr) (items : Array Value) (n : Nat) (dd : Option Addr) (sl : Array (Option Value)) (x : Int) (u : Tok) (c0 : (decide (x < -(2 ^ 63)) || decide (x ≥ 2 ^ 63)) = false) (c1 : (items.isEmpty || x == 1) = true) :
    Meets (Builtin.«tuple.__mul__» ⟨[.ref l, .int x u], []⟩) (fun _ R s => s.heap.get? l = some { cls := .type "tuple", dict := dd, data := .seq items n, slots := sl } ∧
      R (.ok (.ret (Value.ref l))) s) :=
  .of_wp fun prog w A R s h => by
    obtain ⟨hp, g, d, tk, os⟩ := s
    obtain ⟨hl, h⟩ := h
    have f1 := AutoSeq1.idx_int
    wp_walk using wpAny_loadPart' hl
    repeat (first
      | (refine wpAny_ite_false (decide_eq_false (by rw [c0]; exact Bool.false_ne_true)) ?_; wp_walk using wpAny_loadPart' hl)
      | (refine wpAny_ite_true (decide_eq_true c1) ?_; wp_walk using wpAny_loadPart' hl))
    exact ⟨_, rfl, h⟩
def rRep1 (K : PySem.W.Frag) : R2 := fun x y H Q => ∃ l k xs, x = .ref l ∧ y = .int k ∧ SqT K H l xs ∧ xs ≠ [] ∧ k ≤ 1 ∧ -1000 ≤ k ∧ (k = 1 → Q (.ref l) H) ∧ (k ≤ 0 → ∀ p, H p = none → Q (.ref p) (upd H p (.tup [])))
section
variable {X : Cx}
theorem op_rep1 : OpR X (binaryOp .Mult) (rRep1 X.K) := by
  intro pins s σ H x y v u Q I rx ry h
  obtain ⟨l, k, xs, rfl, rfl, hT, hne, h1, h2, q1, q2⟩ := h
  cases rx
  obtain ⟨t, rfl⟩ := ry
  obtain ⟨its, r, ⟨⟨cls, dd, data, sl⟩, ho, hc, n, hd⟩, hs⟩ := I.tuple hT
  simp only at hc hd
  subst hc hd
  have hle : its.length = xs.length := r.length.symm
  have hn : its ≠ [] := fun e => hne (by
    rw [e] at hle
    exact List.eq_nil_of_length_eq_zero hle.symm)
  have hi : its.toArray.isEmpty = false := by
    cases its with
    | nil => exact absurd rfl hn
    | cons a b => rfl
  have c0 : (decide (k < -(2 ^ 63)) || decide (k ≥ 2 ^ 63)) = false := by
    rw [decide_eq_false (by omega), decide_eq_false (by omega)] <;> rfl
  by_cases e : k = 1
  · have c1 : (its.toArray.isEmpty || k == 1) = true := by
      rw [hi, Bool.false_or, e]
      rfl
    refine wpAny_binaryOp_repeat_ref (T := "tuple") (U := "int") (by decide) ⟨_, ho, rfl⟩ (fun s' => typeIs_int s' k t) noFill_tuple_mul F.fills_int_mul F.slot_int_rmul repeat_tuple F.slot_int_index.lookup
      (call_meets F.slot_int_rmul (typeIs_int s k t) F.entry_int_rmul (F.args_int_rmul_2 _ _) (int_rmul_tuple k t l its.toArray n dd sl)
        ⟨ho, rfl, ⟨_, ho, rfl⟩, call_meets F.slot_tuple_mul ⟨_, ho, rfl⟩ F.entry_tuple_mul (F.args_tuple_mul_2 _ _) (tuple_mul1 l its.toArray n dd sl k t c0 c1) ⟨ho, ?_⟩⟩)
    exact ⟨.ref l, H, I, rfl, q1 e⟩
  · have c1 : (its.toArray.isEmpty || k == 1) = false := by
      rw [hi, Bool.false_or]
      exact beq_eq_false_iff_ne.mpr e
    have c2 : (decide (k ≤ 0) || its.toArray.isEmpty) = true := by
      rw [decide_eq_true (show k ≤ 0 by omega)] <;> rfl
    refine wpAny_binaryOp_repeat_ref (T := "tuple") (U := "int") (by decide) ⟨_, ho, rfl⟩ (fun s' => typeIs_int s' k t) noFill_tuple_mul F.fills_int_mul F.slot_int_rmul repeat_tuple F.slot_int_index.lookup
      (call_meets F.slot_int_rmul (typeIs_int s k t) F.entry_int_rmul (F.args_int_rmul_2 _ _) (int_rmul_tuple k t l its.toArray n dd sl)
        ⟨ho, rfl, ⟨_, ho, rfl⟩, call_meets F.slot_tuple_mul ⟨_, ho, rfl⟩ F.entry_tuple_mul (F.args_tuple_mul_2 _ _) (tuple_mul0 l its.toArray n dd sl k t c0 c1 c2) ⟨ho, ?_⟩⟩)
    refine ⟨.ref s.heap.objs.size, _, I.laid (t' := s.toks) (o := .tup []) (fun b ob q => Heap.get?_push_of_some _ q) (Nat.le_refl _) ?_, rfl, q2 (by omega) _ (I.hok.fresh (Nat.le_refl _))⟩
    exact ⟨Nat.zero_le _, _, .nil, IsTup.new _ _⟩
/-- either way -/
def rRepA (K : PySem.W.Frag) : R2 := fun x y H Q => rRep1 K x y H Q ∨ rRepT K x y H Q
theorem op_repA : OpR X (binaryOp .Mult) (rRepA X.K) := fun pins s σ H x y v u Q I rx ry h => h.elim (op_rep1 pins s σ H x y v u Q I rx ry) (op_repT pins s σ H x y v u Q I rx ry)
end
end K4
namespace K4
open PySem PySem.Spec PyProof.Rows L2
variable {P : Program} {w : World} {K : PySem.W.Frag} {mg : Str → Option Value} {base : Heap}
/-! ### _law_rows_of -/
def IsRow (K : PySem.W.Frag) (H : Hp) (x : V) : Prop := ∃ (t : Addr) (L : List Int), x = .ref t ∧ SqT K H t (L.map V.int) ∧ BytesL L ∧ L.length ≤ 100
theorem IsRow.tk {H H' : Hp} {x : V} (t : TK K H H') (h : IsRow K H x) : IsRow K H' x := by
  obtain ⟨a, L, e, h1, h2⟩ := h
  exact ⟨a, L, e, t _ _ h1, h2⟩
theorem St.tk {H H' : Hp} {st : Addr} (S : St H st) (b : But st st H H') : TK K H H' := by
  obtain ⟨c, l, k, cs, h1, _⟩ := S
  exact TK.but b (by rw [h1]; trivial) (by rw [h1]; trivial)
theorem St.keep {H H' : Hp} {st l : Addr} {xs : List V} (S : St H st) (b : But st st H H') (h : H l = some (.lst xs)) : H' l = some (.lst xs) := by
  obtain ⟨c, l', k, cs, h1, _⟩ := S
  exact b _ _ h (ne_of h h1 (fun z => nomatch z)) (ne_of h h1 (fun z => nomatch z))
def spRows (K : PySem.W.Frag) : Sp := fun vs H Q _ => ∃ (st : Addr), vs = [.ref st] ∧ St H st ∧ ∀ l xs H', H' l = some (.lst xs) → xs.length ≤ 600 → (∀ x ∈ xs, IsRow K H' x) → St H' st → But st st H H' → Q (.ref l) H'
theorem sc_rows : FnScope ["_law_state", "_law_begin_here", "_law_more_here", "_law_found", "_law_k", "_law_letter"] ["_law_state"] (defScope s_law_rows_of) := ⟨rfl, rfl, rfl, by decide +kernel, rfl, by decide +kernel, by decide +kernel⟩
theorem d_rows (B : Bt mg) (D : Df K mg "_law_rows_of" s_law_rows_of) (GN : Dk P w K mg base CX0 2 "_law_next" ["_law_state", "_law_most"] spNext) (GP : Dk P w K mg base CX0 3 "_law_pick" ["_law_state", "_law_some"] (spPick K)) :
    Dk P w K mg base CX0 4 "_law_rows_of" ["_law_state"] (spRows K) := by
  refine Dk.mk' D sc_rows (fun _ _ _ _ _ _ us hl => match us, hl with | [_], _ => rfl) (fun vs H Q E h => ?_) (fun cdv A outer s H vs Q E hr h => ?_)
  · obtain ⟨st, rfl, _⟩ := h
    rfl
  · obtain ⟨st, rfl, S, q⟩ := h
    obtain ⟨tw, hW, hw⟩ : ∃ tw, PSs (cxOf CX0 P w K mg base ["_law_state", "_law_begin_here", "_law_more_here", "_law_found", "_law_k", "_law_letter"] "_law_rows_of" (defScope s_law_rows_of) (He.ga K "_law_rows_of") cdv A outer s H E).nox ((defBody s_law_rows_of).drop 2) tw ∧
        ∀ (b : Addr) (L : List Int) (z4 z5 : Option V) (H1 : Hp), SqT K H1 b (L.map V.int) → BytesL L → L.length ≤ 10 → St H1 st → But st st H H1 → tw { nx := fun _ H' => Q .non H', rt := Q } [some (.ref st), some (.ref b), none, none, z4, z5] H1 := by
      refine ⟨_, pss_cons (ps_set (i := 2) sc_rows.nd rfl (.inr rfl) (pcall GN hr (by decide) rfl (pa_cons (pv 0) (pa_cons pe_int pa_nil))))
        (pss_cons (ps_set (i := 3) sc_rows.nd rfl (.inl rfl) (pe_op op_cat (pe_lst (pa_cons (pv 1) pa_nil)) (pe_lc (own := [("_law_letter", 5)]) (g := gName 5) (tt := tYes) (te := tOp (rCatA K) (tVar 1) (tTup (tCons (tVar 5) tNil))) rfl sc_rows.nd (pi_range1 rfl B.range (pa_cons pe_int pa_nil)) (blkOk_by (N := ["_law_state", "_law_begin_here", "_law_more_here", "_law_found", "_law_k", "_law_letter"]) (sc := defScope s_law_rows_of) (by decide +kernel))
            (fun _ _ _ _ _ => pg_name (i := 5) sc_rows.nd rfl (Or.inl rfl)) (fun _ _ _ _ _ => pts_nil) (fun _ _ _ _ _ => pe_op op_catA (pv 1) (pe_tup (pa_cons (pv 5) pa_nil))))))
        (pss_one (ps_ret (pe_op op_cat (pv 3) (pe_lc (own := [("_law_letter", 5)]) (g := gName 5) (te := tOp (rCatA K) (tVar 1) (tTup (tCons (tVar 5) (tCons (tVar 2) tNil)))) rfl sc_rows.nd (pi_range1 rfl B.range (pa_cons pe_int pa_nil)) (blkOk_by (N := ["_law_state", "_law_begin_here", "_law_more_here", "_law_found", "_law_k", "_law_letter"]) (sc := defScope s_law_rows_of) (by decide +kernel))
            (fun _ _ _ _ _ => pg_name (i := 5) sc_rows.nd rfl (Or.inl rfl)) (fun _ _ _ _ _ => pts_one (pt_cmpR op_eq (pe_op op_mod (pv 5) pe_int) (pe_op op_mod (pv 2) pe_int) (nomark _))) (fun _ _ _ _ _ => pe_op op_catA (pv 1) (pe_tup (pa_cons (pv 5) (pa_cons (pv 2) pa_nil))))))))), ?_⟩
      intro b L z4 z5 H1 hb hL hLl S1 b1
      refine ⟨_, rfl, st, 256, rfl, by decide, by decide, S1, fun mo H2 mo0 mo1 S2 b2 => ?_⟩
      have hb2 := S1.tk (K := K) b2 _ _ hb
      have b02 := b1.trans b2
      -- a row of the beginning and more
      have row : ∀ (Hc Hd : Hp) (M : List Int) (y : Addr), Same H2 Hc → BytesL M → M.length ≤ 2 → SqT K Hd y ((L ++ M).map V.int) → IsRow K Hd (.ref y) := fun Hc Hd M y sc hM hMl hy =>
        ⟨y, L ++ M, rfl, hy, fun x hx => by
          rcases List.mem_append.mp hx with h | h
          · exact hL x h
          · exact hM x h, by rw [List.length_append]; omega⟩
      refine ⟨_, rfl, by show 1 ≤ sizeLine; decide, fun a0 ha0 => ?_⟩
      have s3 : Same H2 (upd H2 a0 (.lst [.ref b])) := Same.new ha0
      have h3 : upd H2 a0 (.lst [.ref b]) a0 = some (.lst [.ref b]) := upd_same
      generalize upd H2 a0 (.lst [.ref b]) = H3 at s3 h3
      refine ⟨256, rfl, by decide, by decide, fun D1 hD1 => lc_range (lo := 0) (n := 256) (fun i H' => ∃ xs, H' D1 = some (.lst xs) ∧ xs.length = i ∧ Same H3 H' ∧ ∀ x ∈ xs, IsRow K H' x) ⟨[], upd_same, rfl, Same.new hD1, fun x hx => nomatch hx⟩ ?_ ?_⟩
      · rintro i H' hi ⟨xs, hx1, hx2, sm, hx3⟩
        have hbt : BytesL [(0 : Int) + (i : Nat)] := fun x hx => by
          rw [List.mem_singleton] at hx
          omega
        have st' : Same H2 H' := s3.trans sm
        refine ⟨rfl, _, rfl, _, rfl, by show 1 ≤ sizeLine; decide, fun u hu => ?_⟩
        have su : Same H' (upd H' u (.tup [.int (0 + (i : Nat))])) := Same.new hu
        have hD4 : D1 ≠ u := ne_of_none hx1 hu
        have fin : ∀ (y : Addr) (H5 : Hp), Same H' H5 → SqT K H5 y ((L ++ [(0 : Int) + (i : Nat)]).map V.int) → ∃ acc, H5 D1 = some (.lst acc) ∧ acc.length < sizeLine ∧ ∃ xs, upd H5 D1 (.lst (acc ++ [.ref y])) D1 = some (.lst xs) ∧ xs.length = i + 1 ∧ Same H3 (upd H5 D1 (.lst (acc ++ [.ref y]))) ∧ ∀ x ∈ xs, IsRow K (upd H5 D1 (.lst (acc ++ [.ref y]))) x := fun y H5 s5 hy => by
          have hd5 := s5 _ _ hx1
          have kD : TK K H5 (upd H5 D1 (.lst (xs ++ [.ref y]))) := TK.upd (by rw [hd5]; trivial)
          refine ⟨xs, hd5, n_size (by omega), _, upd_same, by rw [List.length_append, hx2]; rfl, (sm.trans s5).more hD1, fun x hx => ?_⟩
          rcases List.mem_append.mp hx with h | h
          · exact ((hx3 x h).tk s5.tk).tk kD
          · rw [List.mem_singleton] at h
            rw [h]
            exact (row H2 H5 _ y (Same.refl H2) hbt (by show 1 ≤ 2; decide) hy).tk kD
        refine ⟨b, u, L.map V.int, _, rfl, rfl, (st'.trans su).seqT hb2, .inl (.inl upd_same), line_ge (by rw [List.length_map]; show L.length + 1 ≤ 16777216; omega), fun e => ?_, fun _ e => absurd e (by simp), fun _ _ v hv => ?_⟩
        · have eL : L = [] := List.map_eq_nil_iff.mp e
          exact fin u _ su (by rw [eL]; exact .inl (.inl upd_same))
        · exact fin v _ (su.trans (Same.new hv)) (.inl (.inl (by rw [upd_same, List.map_append]; rfl)))
      · rintro H4 ⟨xs, hx1, hx2, sm, hx3⟩
        have hb4 := (s3.trans sm).seqT hb2
        refine ⟨a0, D1, _, _, rfl, rfl, sm _ _ h3, hx1, line_ge (by rw [hx2]; show 1 + 256 ≤ 16777216; decide), fun fl hfl => ?_⟩
        have s5 : Same H4 (upd H4 fl (.lst ([.ref b] ++ xs))) := Same.new hfl
        have h5 : upd H4 fl (.lst ([.ref b] ++ xs)) fl = some (.lst ([.ref b] ++ xs)) := upd_same
        have r5 : ∀ x ∈ [V.ref b] ++ xs, IsRow K (upd H4 fl (.lst ([.ref b] ++ xs))) x := fun x hx => by
          rcases List.mem_append.mp hx with h | h
          · rw [List.mem_singleton] at h
            rw [h]
            exact ⟨b, L, rfl, s5.seqT hb4, hL, by omega⟩
          · exact (hx3 x h).tk s5.tk
        have hb5 := s5.seqT hb4
        have s25 : Same H2 (upd H4 fl (.lst ([.ref b] ++ xs))) := (s3.trans sm).trans s5
        have l5 : ([V.ref b] ++ xs).length = 257 := by rw [List.length_append, hx2]; rfl
        generalize upd H4 fl (.lst ([.ref b] ++ xs)) = H5 at s5 h5 r5 hb5 s25
        generalize [V.ref b] ++ xs = fs at h5 r5 l5
        refine ⟨_, rfl, 256, rfl, by decide, by decide, fun D2 hD2 => lc_range (lo := 0) (n := 256) (fun i H' => ∃ ys, H' D2 = some (.lst ys) ∧ ys.length ≤ i ∧ Same H5 H' ∧ ∀ x ∈ ys, IsRow K H' x) ⟨[], upd_same, Nat.le_refl _, Same.new hD2, fun x hx => nomatch hx⟩ ?_ ?_⟩
        · rintro i H' hi ⟨ys, hy1, hy2, sm2, hy3⟩
          have hbt : BytesL [(0 : Int) + (i : Nat), mo] := fun x hx => by
            rcases List.mem_cons.mp hx with h | h
            · omega
            · rw [List.mem_singleton] at h
              omega
          have st' : Same H5 H' := sm2
          refine ⟨rfl, _, rfl, _, _, rfl, rfl, by show (0 : Int) < 8; decide, _, rfl, _, _, rfl, rfl, by show (0 : Int) < 8; decide, rfl, _, rfl, ite2 (fun _ => ?_) (fun _ => ⟨ys, hy1, by omega, sm2, hy3⟩)⟩
          refine ⟨_, rfl, _, rfl, _, rfl, by show 2 ≤ sizeLine; decide, fun u hu => ?_⟩
          have su : Same H' (upd H' u (.tup [.int (0 + (i : Nat)), .int mo])) := Same.new hu
          have fin : ∀ (y : Addr) (H6 : Hp), Same H' H6 → SqT K H6 y ((L ++ [(0 : Int) + (i : Nat), mo]).map V.int) → ∃ acc, H6 D2 = some (.lst acc) ∧ acc.length < sizeLine ∧ ∃ ys, upd H6 D2 (.lst (acc ++ [.ref y])) D2 = some (.lst ys) ∧ ys.length ≤ i + 1 ∧ Same H5 (upd H6 D2 (.lst (acc ++ [.ref y]))) ∧ ∀ x ∈ ys, IsRow K (upd H6 D2 (.lst (acc ++ [.ref y]))) x := fun y H6 s6 hy => by
            have hd6 := s6 _ _ hy1
            have kD : TK K H6 (upd H6 D2 (.lst (ys ++ [.ref y]))) := TK.upd (by rw [hd6]; trivial)
            refine ⟨ys, hd6, n_size (by omega), _, upd_same, by rw [List.length_append]; exact Nat.succ_le_succ hy2, (sm2.trans s6).more hD2, fun x hx => ?_⟩
            rcases List.mem_append.mp hx with h | h
            · exact ((hy3 x h).tk s6.tk).tk kD
            · rw [List.mem_singleton] at h
              rw [h]
              exact (row H2 H6 _ y (Same.refl H2) hbt (by show 2 ≤ 2; decide) hy).tk kD
          refine ⟨b, u, L.map V.int, _, rfl, rfl, (st'.trans su).seqT hb5, .inl (.inl upd_same), line_ge (by rw [List.length_map]; show L.length + 2 ≤ 16777216; omega), fun e => ?_, fun _ e => absurd e (by simp), fun _ _ v hv => ?_⟩
          · have eL : L = [] := List.map_eq_nil_iff.mp e
            exact fin u _ su (by rw [eL]; exact .inl (.inl upd_same))
          · exact fin v _ (su.trans (Same.new hv)) (.inl (.inl (by rw [upd_same, List.map_append]; rfl)))
        · rintro H6 ⟨ys, hy1, hy2, sm2, hy3⟩
          refine ⟨fl, D2, _, _, rfl, rfl, sm2 _ _ h5, hy1, line_ge (by omega), fun rl hrl => ?_⟩
          have s7 : Same H2 (upd H6 rl (.lst (fs ++ ys))) := (s25.trans sm2).trans (Same.new hrl)
          refine q rl _ _ upd_same (by rw [List.length_append]; omega) (fun x hx => ?_) (S2.same s7) (b02.trans (But.of_same s7))
          rcases List.mem_append.mp hx with h | h
          · exact ((r5 x h).tk sm2.tk).tk (Same.new hrl).tk
          · exact (hy3 x h).tk (Same.new hrl).tk
    refine ⟨_, pss_cons (ps_set (i := 1) sc_rows.nd rfl (.inr rfl) (pT call_tuple_of B.tuple (pa_cons (pe_lc (own := [("_law_k", 4)]) (g := gName 4) (tt := tYes) rfl sc_rows.nd (pi_range1 rfl B.range (pa_cons (pcall GN hr (by decide) rfl (pa_cons (pv 0) (pa_cons pe_int pa_nil))) pa_nil)) (blkOk_by (N := ["_law_state", "_law_begin_here", "_law_more_here", "_law_found", "_law_k", "_law_letter"]) (sc := defScope s_law_rows_of) (by decide +kernel))
            (fun _ _ _ _ _ => pg_name (i := 4) sc_rows.nd rfl (Or.inl rfl)) (fun _ _ _ _ _ => pts_nil) (fun _ _ _ _ _ => pcall GN hr (by decide) rfl (pa_cons (pv 0) (pa_cons pe_int pa_nil)))) pa_nil)))
      (pss_cons (ps_if (pt_cmpR op_eq (pcall GN hr (by decide) rfl (pa_cons (pv 0) (pa_cons pe_int pa_nil))) pe_int (nomark _))
        (pss_one (ps_set (i := 1) sc_rows.nd rfl (.inr rfl) (pe_op op_repA (pe_tup (pa_cons (pcall GP hr (by decide) rfl (pa_cons (pv 0) (pa_cons (pe_lst (pa_cons pe_int (pa_cons pe_int pa_nil))) pa_nil))) pa_nil)) (pcall GN hr (by decide) rfl (pa_cons (pv 0) (pa_cons pe_int pa_nil)))))) pss_nil)
      hW), ?_⟩
    refine ⟨_, rfl, st, 7, rfl, by decide, by decide, S, fun n H1 n0 n1 S1 b1 => ?_⟩
    refine ⟨n, rfl, by omega, by omega, fun D hD => lc_range (lo := 0) (n := n.toNat) (fun i H' => ∃ bs : List Int, H' D = some (.lst (bs.map V.int)) ∧ bs.length = i ∧ BytesL bs ∧ St H' st ∧ But st st H H') ⟨[], upd_same, rfl, (fun x hx => nomatch hx), S1.same (Same.new hD), b1.trans (But.of_same (Same.new hD))⟩ ?_ ?_⟩
    · rintro i H' hi ⟨bs, hx1, hx2, hx3, S2, b2⟩
      refine ⟨rfl, _, rfl, st, 256, rfl, by decide, by decide, S2, fun z H3 z0 z1 S3 b3 => ?_⟩
      have hd3 := S2.keep b3 hx1
      have nDs : D ≠ st := by
        obtain ⟨c, l, k, cs, e1, _⟩ := S3
        exact ne_of hd3 e1 (fun z => nomatch z)
      refine ⟨_, hd3, by rw [List.length_map]; exact n_size (by omega), bs ++ [z], by rw [upd_same, List.map_append]; rfl, by rw [List.length_append, hx2]; rfl, fun x hx => ?_, ?_, ?_⟩
      · rcases List.mem_append.mp hx with h | h
        · exact hx3 x h
        · rw [List.mem_singleton] at h
          omega
      · obtain ⟨c, l, k, cs, e1, e2, e3⟩ := S3
        by_cases hc : c = D
        · subst hc
          exact ⟨c, l, k, bs ++ [z], by rw [upd_ne nDs.symm]; exact e1, by rw [upd_same, List.map_append]; rfl, by rw [List.length_append]; show bs.length + 1 ≤ 1000; omega⟩
        · exact ⟨c, l, k, cs, by rw [upd_ne nDs.symm]; exact e1, by rw [upd_ne hc]; exact e2, e3⟩
      · refine fun a o ha na nb => ?_
        have h1 := b1 a o ha na nb
        rw [upd_ne (ne_of_none h1 hD)]
        exact (b2.trans b3) a o ha na nb
    · rintro H2 ⟨bs, hx1, hx2, hx3, S2, b2⟩
      refine ⟨D, _, rfl, .inl ⟨.inl (.inl hx1), fun u hu => ?_⟩⟩
      have s3 : Same H2 (upd H2 u (.tup (bs.map V.int))) := Same.new hu
      have h3 : SqT K (upd H2 u (.tup (bs.map V.int))) u (bs.map V.int) := .inl (.inl upd_same)
      have S3 := S2.same s3
      have b03 := b2.trans (But.of_same s3)
      generalize upd H2 u (.tup (bs.map V.int)) = H3 at s3 h3 S3 b03
      refine ⟨_, rfl, st, 3, rfl, by decide, by decide, S3, fun r H4 r0 r1 S4 b4 => ⟨rfl, _, rfl, ite2 (fun _ => ?_) (fun _ => ?_)⟩⟩
      · refine ⟨_, rfl, by show 2 ≤ sizeLine; decide, fun pl hpl => ?_⟩
        have s5 : Same H4 (upd H4 pl (.lst [.int 0, .int 255])) := Same.new hpl
        refine ⟨st, pl, [.int 0, .int 255], rfl, .inl (.inl upd_same), ⟨_, upd_same⟩, by decide, by decide, S4.same s5, fun x H6 hx S6 b6 => ?_⟩
        have b06 := ((b03.trans b4).trans (But.of_same s5)).trans b6
        obtain ⟨xi, rfl, hxi⟩ : ∃ xi : Int, x = .int xi ∧ 0 ≤ xi ∧ xi < 256 := by
          rcases List.mem_cons.mp hx with h | h
          · exact ⟨0, h, by decide, by decide⟩
          · rw [List.mem_singleton] at h
            exact ⟨255, h, by decide, by decide⟩
        refine ⟨by show 1 ≤ sizeLine; decide, fun tp htp => ?_⟩
        have s7 : Same H6 (upd H6 tp (.tup [.int xi])) := Same.new htp
        have h7 : SqT K (upd H6 tp (.tup [.int xi])) tp [.int xi] := .inl (.inl upd_same)
        have S7 := S6.same s7
        have b07 := b06.trans (But.of_same s7)
        generalize upd H6 tp (.tup [.int xi]) = H7 at s7 h7 S7 b07
        refine ⟨_, rfl, st, 5, rfl, by decide, by decide, S7, fun k H8 k0 k1 S8 b8 => ?_⟩
        have h8 := S7.tk (K := K) b8 _ _ h7
        have b08 := b07.trans b8
        by_cases c : k ≤ 1
        · refine .inl ⟨tp, k, [.int xi], rfl, rfl, h8, by simp, c, by omega, fun e => ?_, fun e v hv => ?_⟩
          · exact hw tp [xi] _ _ H8 h8 (fun y hy => by rw [List.mem_singleton] at hy; omega) (by show 1 ≤ 10; decide) S8 b08
          · exact hw v [] _ _ _ (.inl (.inl upd_same)) (fun y hy => nomatch hy) (by decide) (S8.same (Same.new hv)) (b08.trans (But.of_same (Same.new hv)))
        · refine .inr ⟨tp, k, [.int xi], rfl, rfl, h8, by simp, by omega, by omega, by show 1 ≤ 1000; decide, fun v hv => ?_⟩
          have ef : (List.replicate k.toNat [V.int xi]).flatten = (List.replicate k.toNat xi).map V.int := by
            rw [List.map_replicate, List.flatten_replicate_singleton]
          refine hw v (List.replicate k.toNat xi) _ _ _ (.inl (.inl (by rw [upd_same, ef]))) (fun y hy => ?_) (by rw [List.length_replicate]; omega) (S8.same (Same.new hv)) (b08.trans (But.of_same (Same.new hv)))
          have := List.eq_of_mem_replicate hy
          omega
      · exact hw u bs _ _ H4 (S3.tk (K := K) b4 _ _ h3) hx3 (by omega) S4 (b03.trans b4)
end K4
namespace K4
open PySem PySem.Spec PyProof.Rows L2
variable {P : Program} {w : World} {K : PySem.W.Frag} {mg : Str → Option Value} {base : Heap}
/-! ### _law_is_theirs -/
theorem two_depth {a b : NestedKey} (ha : a.depth ≤ 3) (hb : b.depth ≤ 3) : (NestedKey.tup [a, b]).depth ≤ 64 := by
  simp only [NestedKey.depth, NestedKey.depthAll]
  omega
def bK (b : Bool) : NestedKey := .num (if b = true then 1 else 0)
theorem kd_two {H : Hp} {u : Addr} {x y : V} {a b : NestedKey} (h : SqT K H u [x, y]) (hx : Kd K H x a) (hy : Kd K H y b) : Kd K H (.ref u) (.tup [a, b]) := .tup h (.cons hx (.cons hy .nil))
theorem bK_depth (b : Bool) : (bK b).depth ≤ 3 := by cases b <;> exact Nat.zero_le _
theorem non_depth : NestedKey.none.depth ≤ 3 := Nat.zero_le _
theorem bK_inj {a b : Bool} (h : bK a = bK b) : a = b := by
  cases a <;> cases b <;> first | rfl | exact nomatch h
theorem own_len {reads m : Nat} {cs : List Ch} (hm : m ≤ 2) (hc : allOk reads m cs) : (ownC MM reads cs).length ≤ 1000 := by
  show (ownOf (lastS MM reads cs)).length ≤ 1000
  rw [own_length]
  have h1 := (many_spec (lastS_ok (M := MM) (reads := reads) (cs := cs))).2.1
  have h2 := lastS_n (M := MM) hc
  omega
theorem cut_last (xs : List V) (y : V) : cutV (xs ++ [y]) none (some (-1)) = xs ∧ ¬ (HT.sIx (xs ++ [y]).length 0 none = 0 ∧ HT.sIx (xs ++ [y]).length (xs ++ [y]).length (some (-1)) = (xs ++ [y]).length) := by
  have e : HT.sIx (xs ++ [y]).length (xs ++ [y]).length (some (-1)) = xs.length := by
    show (if (-1 : Int) < 0 then ((-1 : Int) + ((xs ++ [y]).length : Int)).toNat else min (-1 : Int).toNat (xs ++ [y]).length) = _
    rw [if_pos (by decide), List.length_append]
    show ((-1 : Int) + ((xs.length + 1 : Nat) : Int)).toNat = xs.length
    omega
  constructor
  · unfold cutV
    rw [e]
    show ((xs ++ [y]).drop 0).take (xs.length - 0) = xs
    rw [List.drop_zero, Nat.sub_zero, List.take_left]
  · rw [e, List.length_append]
    show ¬ (_ ∧ xs.length = xs.length + 1)
    omega
def spTheirs (K : PySem.W.Frag) : Sp := fun vs H Q _ => ∃ (u : Addr) (cx : V) (cs : List Ch) (m reads : Nat), vs = [.ref u, cx, .int ((4 * m : Nat) : Int), .int reads] ∧ 1 ≤ m ∧ m ≤ 2 ∧ reads ≤ 2 ∧ SqT K H u ((ownC MM reads cs).map V.int) ∧ IsCt K H cx cs ∧ allOk reads m cs ∧ ∀ H', Same H H' → Q (.bl true) H'
theorem sc_theirs : FnScope ["_law_own", "_law_choices", "_law_wide", "_law_reads", "_law_due"] ["_law_own", "_law_choices", "_law_wide", "_law_reads"] (defScope s_law_is_theirs) := ⟨rfl, rfl, rfl, by decide +kernel, rfl, by decide +kernel, by decide +kernel⟩
theorem d_theirs (D : Df K mg "_law_is_theirs" s_law_is_theirs) (GT : Dk P w K mg base CX0 11 "_law_told_of" ["_law_some", "_law_wide", "_law_reads"] (spToldOf K)) (GR : Dk P w K mg base CX0 6 "_law_read" ["_law_some", "_law_wide", "_law_reads"] (spRead K)) :
    Dk P w K mg base CX0 12 "_law_is_theirs" ["_law_own", "_law_choices", "_law_wide", "_law_reads"] (spTheirs K) := by
  refine Dk.mk' D sc_theirs (fun _ _ _ _ _ _ us hl => match us, hl with | [_, _, _, _], _ => rfl) (fun vs H Q E h => ?_) (fun cdv A outer s H vs Q E hr h => ?_)
  · obtain ⟨u, cx, cs, m, reads, rfl, _⟩ := h
    rfl
  · obtain ⟨u, cx, cs, m, reads, rfl, hm1, hm2, h2, hu, hcx, hc, q⟩ := h
    have hown := own_read (M := MM) hc
    have hbl : BytesL (ownC MM reads cs) := own_bytes _
    have hol := own_len hm2 hc
    refine ⟨_, pss_cons (ps_set (i := 4) sc_theirs.nd rfl (.inl rfl) (pe_tup (pa_cons (pv 1) (pa_cons pe_bl pa_nil))))
      (pss_cons (ps_if (PW.pt (pw_or (pt_cmpR (op_neK (room64 hr)) (pcall GT hr (by decide) rfl (pa_cons (pv 0) (pa_cons (pv 2) (pa_cons (pv 3) pa_nil)))) (pe_tup (pa_cons (pv 1) (pa_cons pe_non pa_nil))) (nomark _)) (pw_or1 (pt_cmpR (op_neK (room64 hr)) (pcall GR hr (by decide) rfl (pa_cons (pv 0) (pa_cons (pv 2) (pa_cons (pv 3) pa_nil)))) (pv 4) (nomark _))))) (pss_one (ps_ret pe_bl)) pss_nil)
      (pss_cons (ps_if (pt_cmpR (op_eqK (room64 hr)) (pv 0) (pe_tup pa_nil) (nomark _)) (pss_one (ps_ret pe_bl)) pss_nil)
      (pss_cons (ps_if (pt_cmpR (op_eqK (room64 hr)) (pcall GR hr (by decide) rfl (pa_cons (pe_slice sl_tupA (pv 0) po_none (po_some (pe_un un_neg pe_int))) (pa_cons (pv 2) (pa_cons (pv 3) pa_nil)))) (pv 4) (nomark _)) (pss_one (ps_ret pe_bl)) pss_nil)
      (pss_one (ps_ret (pe_and (pe_cmpR op_gt (pe_ix ix_tup (pv 0) (pe_un un_neg pe_int) (fun _ _ => rfl)) pe_int (nomark _)) (pe_one (pe_cmpR (op_neK (room64 hr)) (pcall GR hr (by decide) rfl (pa_cons (pe_op op_catA (pe_slice sl_tupA (pv 0) po_none (po_some (pe_un un_neg pe_int))) (pe_tup (pa_cons (pe_op op_sub (pe_ix ix_tup (pv 0) (pe_un un_neg pe_int) (fun _ _ => rfl)) pe_int) pa_nil))) (pa_cons (pv 2) (pa_cons (pv 3) pa_nil)))) (pv 4) (nomark _))))))))), ?_⟩
    refine ⟨_, rfl, by show 2 ≤ sizeLine; decide, fun du hdu => ?_⟩
    have s1 : Same H (upd H du (.tup [cx, .bl false])) := Same.new hdu
    have hdue : SqT K (upd H du (.tup [cx, .bl false])) du [cx, .bl false] := .inl (.inl upd_same)
    generalize upd H du (.tup [cx, .bl false]) = H1 at s1 hdue
    have hcx1 := hcx.tk s1.tk
    have kdue : ∀ H', Same H1 H' → Kd K H' (.ref du) (.tup [csK cs, bK false]) := fun H' s' => kd_two (s'.seqT hdue) (hcx1.tk s'.tk).kd (.bl false)
    have ddue : (NestedKey.tup [csK cs, bK false]).depth ≤ 64 := two_depth (csK_depth cs) (bK_depth false)
    refine ⟨_, rfl, _, rfl, _, rfl, u, ownC MM reads cs, m, reads, rfl, hm1, hm2, h2, s1.seqT hu, hbl, by omega, fun _ t y H2 s2 ht hy => ?_, fun e => ?_⟩
    · rw [hown] at hy
      refine ⟨_, rfl, by show 2 ≤ sizeLine; decide, fun v hv => ?_⟩
      have s3 : Same H2 (upd H2 v (.tup [cx, .non])) := Same.new hv
      have kv : Kd K (upd H2 v (.tup [cx, .non])) (.ref v) (.tup [csK cs, .none]) := kd_two (.inl (.inl upd_same)) ((hcx1.tk s2.tk).tk s3.tk).kd .non
      have kt : Kd K (upd H2 v (.tup [cx, .non])) (.ref t) (.tup [csK cs, .none]) := kd_two (s3.seqT ht) (hy.tk s3.tk).kd .non
      have s13 := s2.trans s3
      generalize upd H2 v (.tup [cx, .non]) = H3 at s3 kv kt s13
      refine ⟨_, _, kt, kv, two_depth (csK_depth cs) non_depth, two_depth (csK_depth cs) non_depth, _, rfl, ?_⟩
      rw [if_pos rfl, decide_eq_true rfl]
      refine iteF ⟨_, rfl, _, rfl, _, rfl, u, ownC MM reads cs, m, reads, rfl, hm1, hm2, h2, (s1.trans s13).seqT hu, fun a b H4 s4 ha hb => ?_⟩
      rw [hown] at ha hb
      have s14 := s13.trans s4
      refine ⟨_, rfl, _, _, kd_two (b := bK false) ha hb.kd (.bl false), kdue H4 s14, two_depth (csK_depth cs) (bK_depth false), ddue, _, rfl, ?_⟩
      rw [if_pos rfl, decide_eq_true rfl]
      refine iteF ⟨_, rfl, by show 0 ≤ sizeLine; decide, fun z hz => ?_⟩
      have s5 : Same H4 (upd H4 z (.tup [])) := Same.new hz
      have s15 := s14.trans s5
      have kz : Kd K (upd H4 z (.tup [])) (.ref z) (rK []) := kd_r (.inl (.inl upd_same))
      generalize upd H4 z (.tup []) = H5 at s5 s15 kz
      have hu5 := (s1.trans s15).seqT hu
      refine ⟨_, _, kd_r hu5, kz, by rw [rK_depth]; decide, by rw [rK_depth]; decide, _, rfl, ?_⟩
      rw [if_neg (by decide)]
      by_cases e0 : ownC MM reads cs = []
      · rw [decide_eq_true (show rK (ownC MM reads cs) = rK [] by rw [e0])]
        exact iteT (q _ (s1.trans s15))
      · rw [decide_eq_false (fun h => e0 (rK_inj h))]
        obtain ⟨qs, x, eq⟩ := snoc_of e0
        rw [eq] at hu5 hbl hol
        rw [List.map_append] at hu5
        obtain ⟨hq, hx0, hx1⟩ := bytes_snoc hbl
        have hql : qs.length ≤ 1000 := by rw [List.length_append] at hol; omega
        obtain ⟨c1, c2⟩ := cut_last (qs.map V.int) (.int x)
        refine iteF ⟨_, rfl, 1, rfl, _, rfl, u, _, rfl, hu5, fun h => absurd h c2, fun _ v hv => ?_⟩
        have c1' : cutV (qs.map V.int ++ [x].map V.int) none (some (-1)) = qs.map V.int := c1
        rw [c1']
        have s6 : Same H5 (upd H5 v (.tup (qs.map V.int))) := Same.new hv
        have hv6 : SqT K (upd H5 v (.tup (qs.map V.int))) v (qs.map V.int) := .inl (.inl upd_same)
        generalize upd H5 v (.tup (qs.map V.int)) = H6 at s6 hv6
        refine ⟨_, rfl, _, rfl, v, qs, m, reads, rfl, hm1, hm2, h2, hv6, fun a1 b1 H7 s7 ha1 hb1 => ?_⟩
        have s17 := (s15.trans s6).trans s7
        refine ⟨_, rfl, _, _, kd_two (b := bK (readAll MM reads m qs).2) ha1 hb1.kd (.bl _), kdue H7 s17, two_depth (csK_depth _) (bK_depth _), ddue, _, rfl, ?_⟩
        rw [if_neg (by decide)]
        have unl1 : ∀ L : List Int, BytesL L → readAll MM reads m L ≠ (cs, false) → ¬ NestedKey.tup [csK (readAll MM reads m L).1, bK (readAll MM reads m L).2] = .tup [csK cs, bK false] := fun L hL hne h => by
          injection h with h
          injection h with h1 h2
          injection h2 with h2 _
          exact hne (Prod.ext ((csK_iff (read_ok (M := MM) (reads := reads) (m := m) hL) hc).mp h1) (bK_inj h2))
        rw [decide_eq_false (unl1 qs hq (own_shorter (M := MM) hc eq))]
        have hu7 := (s6.trans s7).seqT hu5
        have hx : 0 < x := own_last (M := MM) hc eq
        have hat : ∀ (y : V), atI (qs.map V.int ++ [y]) (-1) = some y := fun y => atI_last _ y
        refine iteF ⟨_, rfl, 1, rfl, u, _, -1, .int x, rfl, rfl, hu7, atI_last (qs.map V.int) (.int x), _, _, rfl, rfl, _, rfl, ?_⟩
        rw [decide_eq_true hx]
        refine iteT ⟨_, rfl, 1, rfl, _, rfl, u, _, rfl, hu7, fun h => absurd h c2, fun _ v2 hv2 => ?_⟩
        rw [c1']
        have s8 : Same H7 (upd H7 v2 (.tup (qs.map V.int))) := Same.new hv2
        have hv8 : SqT K (upd H7 v2 (.tup (qs.map V.int))) v2 (qs.map V.int) := .inl (.inl upd_same)
        generalize upd H7 v2 (.tup (qs.map V.int)) = H8 at s8 hv8
        have hu8 := s8.seqT hu7
        refine ⟨_, rfl, 1, rfl, u, _, -1, .int x, rfl, rfl, hu8, atI_last (qs.map V.int) (.int x), _, _, rfl, rfl, by show 1 ≤ sizeLine; decide, fun w1 hw1 => ?_⟩
        have s9 : Same H8 (upd H8 w1 (.tup [.int (x - 1)])) := Same.new hw1
        have hw9 : SqT K (upd H8 w1 (.tup [.int (x - 1)])) w1 [.int (x - 1)] := .inl (.inl upd_same)
        show rCatA K (.ref v2) (.ref w1) (upd H8 w1 (.tup [.int (x - 1)])) _
        generalize upd H8 w1 (.tup [.int (x - 1)]) = H9 at s9 hw9
        have hbl2 : BytesL (qs ++ [x - 1]) := fun y hy => by
          rcases List.mem_append.mp hy with h | h
          · exact hq y h
          · rw [List.mem_singleton] at h
            omega
        have s19 := (s17.trans s8).trans s9
        refine ⟨v2, w1, _, _, rfl, rfl, s9.seqT hv8, hw9, line_ge (by rw [List.length_map]; show qs.length + 1 ≤ 16777216; omega), fun e => ?_, fun _ e => absurd e (by simp), fun _ _ r hr' => ?_⟩
        · have eq0 : qs = [] := List.map_eq_nil_iff.mp e
          refine ⟨_, rfl, _, rfl, w1, qs ++ [x - 1], m, reads, rfl, hm1, hm2, h2, by rw [eq0]; exact hw9, fun a2 b2 Hb sb ha2 hb2 => ?_⟩
          have sF := s19.trans sb
          refine ⟨_, rfl, _, _, kd_two (b := bK (readAll MM reads m (qs ++ [x - 1])).2) ha2 hb2.kd (.bl _), kdue Hb sF, two_depth (csK_depth _) (bK_depth _), ddue, ?_⟩
          rw [if_pos rfl, decide_eq_false (unl1 _ hbl2 (own_less (M := MM) hc eq))]
          exact q _ (s1.trans sF)
        · have sr : Same H9 (upd H9 r (.tup (qs.map V.int ++ [.int (x - 1)]))) := Same.new hr'
          refine ⟨_, rfl, _, rfl, r, qs ++ [x - 1], m, reads, rfl, hm1, hm2, h2, .inl (.inl (by rw [upd_same, List.map_append]; rfl)), fun a2 b2 Hb sb ha2 hb2 => ?_⟩
          have sF := (s19.trans sr).trans sb
          refine ⟨_, rfl, _, _, kd_two (b := bK (readAll MM reads m (qs ++ [x - 1])).2) ha2 hb2.kd (.bl _), kdue Hb sF, two_depth (csK_depth _) (bK_depth _), ddue, ?_⟩
          rw [if_pos rfl, decide_eq_false (unl1 _ hbl2 (own_less (M := MM) hc eq))]
          exact q _ (s1.trans sF)
    · rw [hown] at e
      exact absurd rfl e
end K4
namespace K4
open PySem PySem.Spec PyProof.Rows L2
/-! ### (i, (ns)) > (j, (ms)) -/
def gtL (ns ms : List Int) : Bool := Ob.lexAt (fun j => decide (ns.getD j 0 = ms.getD j 0)) (fun j => decide (ms.getD j 0 < ns.getD j 0)) (decide (ns.length > ms.length)) 0 (min ns.length ms.length)
def rGtP (K : PySem.W.Frag) : R2 := fun x y H Q => ∃ (a b c d : Addr) (i j : Int) (ns ms : List Int), x = .ref a ∧ y = .ref b ∧ SqT K H a [.int i, .ref c] ∧ SqT K H b [.int j, .ref d] ∧ SqT K H c (ns.map V.int) ∧ SqT K H d (ms.map V.int) ∧
  Q (.bl (if i = j then (if ns = ms then false else gtL ns ms) else decide (j < i))) H
section
variable {X : Cx} {pins : List (Addr × Obj)} {σ : L2.St} {H : Hp} {s : Shared}
theorem gt_ints (I : Inv X pins σ H s) {A : Around} {a b : Addr} {ns ms : List Int} (ha : SqT X.K H a (ns.map V.int)) (hb : SqT X.K H b (ms.map V.int)) (hu : A.units < cLine) : Ob.RcOp .Gt A s (.ref a) (.ref b) (gtL ns ms) := by
  obtain ⟨its, r1, p1, _⟩ := I.tuple ha
  obtain ⟨its2, r2, p2, _⟩ := I.tuple hb
  have i1 : IntsAre its ns := Vals.ints r1
  have i2 : IntsAre its2 ms := Vals.ints r2
  have e1 : its.toArray.size = ns.length := by rw [List.size_toArray]; exact i1.length
  have e2 : its2.toArray.size = ms.length := by rw [List.size_toArray]; exact i2.length
  have at1 : ∀ j (h1 : j < its.toArray.size), ∃ t, its.toArray[j] = .int (ns.getD j 0) t := fun j h1 => PyProof.Rows.IntsAre.int_at i1 _ _ (by simp at h1; simp [h1])
  have at2 : ∀ j (h1 : j < its2.toArray.size), ∃ t, its2.toArray[j] = .int (ms.getD j 0) t := fun j h1 => PyProof.Rows.IntsAre.int_at i2 _ _ (by simp at h1; simp [h1])
  have R := Ob.RcOp.tuples_gt (A := A) (s := s) (e := fun j => decide (ns.getD j 0 = ms.getD j 0)) (r := fun j => decide (ms.getD j 0 < ns.getD j 0)) p1 p2 hu (fun j h1 h2 => by
    obtain ⟨t, et⟩ := at1 j h1
    obtain ⟨t', et'⟩ := at2 j h2
    rw [et, et']
    have z : (ns.getD j 0 == ms.getD j 0) = decide (ns.getD j 0 = ms.getD j 0) := by
      by_cases q : ns.getD j 0 = ms.getD j 0
      · rw [decide_eq_true q]; exact beq_iff_eq.mpr q
      · rw [decide_eq_false q]; exact beq_eq_false_iff_ne.mpr q
    rw [← z]
    exact SeqAt.EqAt.int_int _ _ _ _) (fun j h1 h2 _ => by
    obtain ⟨t, et⟩ := at1 j h1
    obtain ⟨t', et'⟩ := at2 j h2
    rw [et, et']
    exact Ob.RcOp.gt_int _ _ _ _)
  rw [e1, e2] at R
  exact R
theorem op_gtP (hu : X.A.units + 64 < cLine) : OpR X (compareOp .Gt) (rGtP X.K) := by
  intro pins s σ H x y v u Q I rx ry h
  obtain ⟨a, b, c, d, i, j, ns, ms, rfl, rfl, ha, hb, hc, hd, q⟩ := h
  cases rx
  cases ry
  obtain ⟨its, r1, p1, _⟩ := I.tuple ha
  obtain ⟨its2, r2, p2, _⟩ := I.tuple hb
  obtain ⟨u1, w1, rfl, ⟨t1, rfl⟩, z1⟩ : ∃ u1 w1, its = [u1, w1] ∧ RelV (.int i) u1 ∧ RelV (.ref c) w1 := by
    cases r1 with
    | cons p q =>
      cases q with
      | cons p' q' =>
        cases q'
        exact ⟨_, _, rfl, p, p'⟩
  obtain ⟨u2, w2, rfl, ⟨t2, rfl⟩, z2⟩ : ∃ u2 w2, its2 = [u2, w2] ∧ RelV (.int j) u2 ∧ RelV (.ref d) w2 := by
    cases r2 with
    | cons p q =>
      cases q with
      | cons p' q' =>
        cases q'
        exact ⟨_, _, rfl, p, p'⟩
  have k1 := kd_is I (rK ns) (.ref c) w1 (kd_r hc) z1
  have k2 := kd_is I (rK ms) (.ref d) w2 (kd_r hd) z2
  cases z1
  cases z2
  have un : X.A.in1.units = X.A.units + 1 := rfl
  have R := Ob.RcOp.tuples_gt (A := X.A) (s := s) (e := fun k => if k = 0 then decide (i = j) else decide (ns = ms)) (r := fun k => if k = 0 then decide (j < i) else gtL ns ms) p1 p2 (by omega) (fun k h1 h2 => by
    rcases (show k = 0 ∨ k = 1 by have : k < 2 := h1; omega) with rfl | rfl
    · have z : (i == j) = decide (i = j) := by
        by_cases e : i = j
        · rw [decide_eq_true e]; exact beq_iff_eq.mpr e
        · rw [decide_eq_false e]; exact beq_eq_false_iff_ne.mpr e
      have h := SeqAt.EqAt.int_int (A := X.A.in1) (s := s) i t1 j t2
      rw [z] at h
      exact h
    · have h := eqAt_key (rK ns) (rK ms) X.A.in1 s (.ref c) (.ref d) k1 k2 (by rw [rK_depth, rK_depth, un]; omega)
      rw [← NestedKey.decide_eq] at h
      have e : decide (rK ns = rK ms) = decide (ns = ms) := by
        by_cases e : ns = ms
        · rw [decide_eq_true e, decide_eq_true (by rw [e])]
        · rw [decide_eq_false e, decide_eq_false (fun z => e (rK_inj z))]
      rw [e] at h
      exact h) (fun k h1 h2 _ => by
    rcases (show k = 0 ∨ k = 1 by have : k < 2 := h1; omega) with rfl | rfl
    · exact Ob.RcOp.gt_int i j t1 t2
    · exact gt_ints I hc hd (by rw [un]; omega))
  refine R X.prog X.w X.xe (EP X pins σ Q) ⟨.bl _, H, I, rfl, ?_⟩
  have ef : Ob.lexAt (fun k => if k = 0 then decide (i = j) else decide (ns = ms)) (fun k => if k = 0 then decide (j < i) else gtL ns ms) false 0 2 = (if i = j then (if ns = ms then false else gtL ns ms) else decide (j < i)) := by
    show (if decide (i = j) = true then (if decide (ns = ms) = true then false else gtL ns ms) else decide (j < i)) = _
    by_cases e1 : i = j
    · rw [decide_eq_true e1, if_pos rfl, if_pos e1]
      by_cases e2 : ns = ms
      · rw [decide_eq_true e2, if_pos rfl, if_pos e2]
      · rw [decide_eq_false e2, if_neg Bool.false_ne_true, if_neg e2]
    · rw [decide_eq_false e1, if_neg Bool.false_ne_true, if_neg e1]
  show Q (.bl (Ob.lexAt (fun k => if k = 0 then decide (i = j) else decide (ns = ms)) (fun k => if k = 0 then decide (j < i) else gtL ns ms) false 0 2)) H
  rw [ef]
  exact q
end
theorem lexAt_shift (e r : Nat → Bool) (z : Bool) : ∀ (k i : Nat), Ob.lexAt e r z (i + 1) k = Ob.lexAt (fun j => e (j + 1)) (fun j => r (j + 1)) z i k
  | 0, _ => rfl
  | k + 1, i => by
    rw [Ob.lexAt_succ, Ob.lexAt_succ, lexAt_shift e r z k (i + 1)]
theorem gtL_cons (a b : Int) (r q : List Int) : gtL (a :: r) (b :: q) = if a = b then gtL r q else decide (b < a) := by
  unfold gtL
  rw [show min (a :: r).length (b :: q).length = min r.length q.length + 1 by simp only [List.length_cons]; omega, Ob.lexAt_succ, lexAt_shift]
  have e1 : decide ((a :: r).length > (b :: q).length) = decide (r.length > q.length) := by
    by_cases c : r.length > q.length
    · rw [decide_eq_true c, decide_eq_true (by simp only [List.length_cons]; omega)]
    · rw [decide_eq_false c, decide_eq_false (by simp only [List.length_cons]; omega)]
  rw [e1]
  show (if decide (a = b) = true then _ else decide (b < a)) = _
  by_cases c : a = b
  · rw [decide_eq_true c, if_pos rfl, if_pos c]
    rfl
  · rw [decide_eq_false c, if_neg Bool.false_ne_true, if_neg c]
/-- the own row is not above -/
theorem gtL_le : ∀ (ns ms : List Int), ns.length = ms.length → lexLe ns ms = true → gtL ns ms = false
  | [], [], _, _ => rfl
  | [], _ :: _, h, _ => nomatch h
  | _ :: _, [], h, _ => nomatch h
  | a :: r, b :: q, h, hl => by
    rw [gtL_cons]
    have hl : (decide (a < b) || (decide (a = b) && lexLe r q)) = true := hl
    by_cases c : a = b
    · rw [if_pos c]
      rw [decide_eq_false (show ¬ a < b by omega), decide_eq_true c, Bool.false_or, Bool.true_and] at hl
      exact gtL_le r q (by simpa using h) hl
    · rw [if_neg c]
      rw [decide_eq_false c, Bool.false_and, Bool.or_false] at hl
      have := of_decide_eq_true hl
      exact decide_eq_false (by omega)
end K4
namespace K4
open PySem PySem.Spec PyProof.Rows L2
variable {P : Program} {w : World} {K : PySem.W.Frag} {mg : Str → Option Value} {base : Heap}
/-! ### _law_right -/
def spRight (K : PySem.W.Frag) : Sp := fun vs H Q _ => ∃ (t u rh sz : Addr) (cx : V) (L : List Int) (m reads : Nat), vs = [.ref t, .ref u, .ref rh, .ref sz] ∧ 1 ≤ m ∧ m ≤ 2 ∧ reads ≤ 2 ∧ SqT K H t (L.map V.int) ∧ BytesL L ∧ L.length ≤ 100 ∧
  SqT K H u ((ownC MM reads (readAll MM reads m L).1).map V.int) ∧ SqT K H rh [cx, .bl (readAll MM reads m L).2] ∧ IsCt K H cx (readAll MM reads m L).1 ∧ SqT K H sz [.int ((4 * m : Nat) : Int), .int reads] ∧ ∀ H', Same H H' → Q (.bl true) H'
theorem sc_right : FnScope ["_law_some", "_law_own", "_law_read_here", "_law_sizes", "_law_choices", "_law_odd", "_law_wide", "_law_reads", "_law_at", "_law_unlike"] ["_law_some", "_law_own", "_law_read_here", "_law_sizes"] (defScope s_law_right) := ⟨rfl, rfl, rfl, by decide +kernel, rfl, by decide +kernel, by decide +kernel⟩
theorem d_right (B : Bt mg) (D : Df K mg "_law_right" s_law_right) (GT : Dk P w K mg base CX0 11 "_law_told_of" ["_law_some", "_law_wide", "_law_reads"] (spToldOf K)) :
    Dk P w K mg base CX0 12 "_law_right" ["_law_some", "_law_own", "_law_read_here", "_law_sizes"] (spRight K) := by
  refine Dk.mk' D sc_right (fun _ _ _ _ _ _ us hl => match us, hl with | [_, _, _, _], _ => rfl) (fun vs H Q E h => ?_) (fun cdv A outer s H vs Q E hr h => ?_)
  · obtain ⟨t, u, rh, sz, cx, L, m, reads, rfl, _⟩ := h
    rfl
  · obtain ⟨t, u, rh, sz, cx, L, m, reads, rfl, hm1, hm2, h2, ht, hL, hLl, hu, hrh, hcx, hsz, q⟩ := h
    have hal := read_ok (M := MM) (reads := reads) (m := m) hL
    have hol := own_len hm2 hal
    generalize hcs0 : (readAll MM reads m L).1 = cs at hu hcx hal hol
    generalize hod0 : (readAll MM reads m L).2 = odd at hrh
    obtain ⟨tw, hW, hw⟩ : ∃ tw, PSs (cxOf CX0 P w K mg base ["_law_some", "_law_own", "_law_read_here", "_law_sizes", "_law_choices", "_law_odd", "_law_wide", "_law_reads", "_law_at", "_law_unlike"] "_law_right" (defScope s_law_right) (He.ga K "_law_right") cdv A outer s H E).nox ((defBody s_law_right).drop 4) tw ∧
        ∀ (H1 : Hp), Same H H1 → ownC MM reads cs ≠ L → tw { nx := fun _ H' => Q .non H', rt := Q } [some (.ref t), some (.ref u), some (.ref rh), some (.ref sz), some cx, some (.bl odd), some (.int ((4 * m : Nat) : Int)), some (.int reads), none, none] H1 := by
      refine ⟨_, (pss_cons (ps_setLc (i := 9) (own := [("_law_at", 8)]) (g := gName 8) (te := tVar 8) (tt := tTest (tOp rNe (tOp (rIxT K) (tVar 1) (tVar 8)) (tOp (rIxT K) (tVar 0) (tVar 8)))) rfl sc_right.nd rfl rfl (sw_true rfl rfl rfl (by decide +kernel)) (pi_range1 rfl B.range (pa_cons (pB (call_min2 rfl) B.min (pa_cons (pB call_len B.len (pa_cons (pv 1) pa_nil)) (pa_cons (pB call_len B.len (pa_cons (pv 0) pa_nil)) pa_nil))) pa_nil)) (blkOk_by (N := ["_law_some", "_law_own", "_law_read_here", "_law_sizes", "_law_choices", "_law_odd", "_law_wide", "_law_reads", "_law_at", "_law_unlike"]) (sc := defScope s_law_right) (by decide +kernel))
          (fun _ _ _ _ _ => pg_name (i := 8) sc_right.nd rfl (Or.inl rfl)) (fun _ _ _ _ _ => pts_one (pt_cmpR op_ne (pe_ix ix_tup (pv 1) (pv 8) (fun _ _ => rfl)) (pe_ix ix_tup (pv 0) (pv 8) (fun _ _ => rfl)) (nomark _))) (fun _ _ _ _ _ => pv 8))
      (pss_cons (ps_set (i := 8) sc_right.nd rfl (.inl rfl) (pe_ifExp (pt_cmpR (op_neD (room64 hr)) (pv 9) (pe_lst pa_nil) (nomark _)) (pe_ix ix_list (pv 9) pe_int (fun _ _ => rfl)) (pB (call_min2 rfl) B.min (pa_cons (pB call_len B.len (pa_cons (pv 1) pa_nil)) (pa_cons (pB call_len B.len (pa_cons (pv 0) pa_nil)) pa_nil)))))
      (pss_one (ps_ret (pe_cmpR (op_eqK (room64 hr)) (pcall GT hr (by decide) rfl (pa_cons (pv 0) (pa_cons (pv 6) (pa_cons (pv 7) pa_nil)))) (pe_tup (pa_cons pe_non (pa_cons (pv 8) pa_nil))) (nomark _)))))), ?_⟩
      intro H1 s1 hne
      have hu1 := s1.seqT hu
      have ht1 := s1.seqT ht
      generalize hos : ownC MM reads cs = os at hu1 hne hol
      have em : (if (((L.map V.int).length : Nat) : Int) < (((os.map V.int).length : Nat) : Int) then (((L.map V.int).length : Nat) : Int) else (((os.map V.int).length : Nat) : Int)) = ((min os.length L.length : Nat) : Int) := by
        rw [List.length_map, List.length_map]
        split <;> omega
      refine ⟨_, rfl, _, _, rfl, .inr ⟨_, hu1, rfl⟩, _, rfl, _, _, rfl, .inr ⟨_, ht1, rfl⟩, _, _, rfl, ((min os.length L.length : Nat) : Int), congrArg (fun z => [V.int z]) em, by omega, by omega, ?_⟩
      rw [Int.toNat_natCast]
      -- the last lines, told what unlike holds
      have fin : ∀ (D : Addr) (H2 : Hp) (acc : List Int), H2 D = some (.lst (acc.map V.int)) → Same H1 H2 → ((acc = [] ∧ unl os L = min os.length L.length) ∨ ∃ r, acc = ((unl os L : Nat) : Int) :: r) →
          ∀ (z8 : Option V), tSeq (tAsg (tIf (tTest (tOp (rNeD K) (tVar 9) (tLst tNil))) (tOp (rIxL K) (tVar 9) (tC (.int 0))) (tCB (fun xs H Q => ∃ i j, xs = [V.int i, V.int j] ∧ Q (.int (if j < i then j else i)) H) (tCons (tCB (fun xs H Q => ∃ x n, xs = [x] ∧ LenV K x H n ∧ Q (.int (n : Nat)) H) (tCons (tVar 1) tNil)) (tCons (tCB (fun xs H Q => ∃ x n, xs = [x] ∧ LenV K x H n ∧ Q (.int (n : Nat)) H) (tCons (tVar 0) tNil)) tNil)))) (gName 8))
            (tRet (tOp (rEqK K false) (tCall (spToldOf K) [] E0 (tCons (tVar 0) (tCons (tVar 6) (tCons (tVar 7) tNil)))) (tTup (tCons (tC .non) (tCons (tVar 8) tNil)))))
            { nx := fun _ H' => Q .non H', rt := Q } [some (.ref t), some (.ref u), some (.ref rh), some (.ref sz), some cx, some (.bl odd), some (.int ((4 * m : Nat) : Int)), some (.int reads), z8, some (.ref D)] H2 := by
        intro D H2 acc hD s2 hacc z8
        have last : ∀ (H3 : Hp), Same H H3 → tRet (tOp (rEqK K false) (tCall (spToldOf K) [] E0 (tCons (tVar 0) (tCons (tVar 6) (tCons (tVar 7) tNil)))) (tTup (tCons (tC .non) (tCons (tVar 8) tNil))))
            { nx := fun _ H' => Q .non H', rt := Q } [some (.ref t), some (.ref u), some (.ref rh), some (.ref sz), some cx, some (.bl odd), some (.int ((4 * m : Nat) : Int)), some (.int reads), some (.int ((unl os L : Nat) : Int)), some (.ref D)] H3 := fun H3 s3 => by
          refine ⟨_, rfl, _, rfl, _, rfl, t, L, m, reads, rfl, hm1, hm2, h2, s3.seqT ht, hL, by omega, fun ee => absurd (by rw [← ee, hcs0, hos]) hne, fun _ v H4 s4 hv => ?_⟩
          rw [hcs0, hos] at hv
          refine ⟨_, rfl, by show 2 ≤ sizeLine; decide, fun z hz => ?_⟩
          have s5 : Same H4 (upd H4 z (.tup [.non, .int ((unl os L : Nat) : Int)])) := Same.new hz
          refine ⟨.tup [.none, .num (unl os L : Nat)], .tup [.none, .num (unl os L : Nat)], kd_two (s5.seqT hv) .non (.int _), kd_two (.inl (.inl upd_same)) .non (.int _), two_depth non_depth (Nat.zero_le _), two_depth non_depth (Nat.zero_le _), ?_⟩
          rw [if_neg (by decide), decide_eq_true rfl]
          exact q _ ((s3.trans s4).trans s5)
        refine ⟨_, rfl, by show 0 ≤ sizeLine; decide, fun e he => ?_⟩
        have s3 : Same H2 (upd H2 e (.lst [])) := Same.new he
        have he2 : upd H2 e (.lst []) e = some (.lst []) := upd_same
        generalize upd H2 e (.lst []) = H3 at s3 he2
        have hD3 := s3 _ _ hD
        have s03 : Same H H3 := (s1.trans s2).trans s3
        refine ⟨_, _, .lst (.inl (.inl hD3)) (dp_ints acc), .lst (xs := []) (.inl (.inl he2)) .nil, ints_shaped acc, by decide, _, rfl, ?_⟩
        rw [ints_nil]
        rcases hacc with ⟨rfl, hm⟩ | ⟨r, rfl⟩
        · rw [decide_eq_true rfl]
          refine iteF ⟨_, rfl, _, _, rfl, .inr ⟨_, s03.seqT hu, rfl⟩, _, rfl, _, _, rfl, .inr ⟨_, s03.seqT ht, rfl⟩, _, _, rfl, ?_⟩
          have em2 := em
          rw [← hm, ← hos] at em2
          rw [em2, hos]
          exact last H3 s03
        · rw [decide_eq_false (fun z => nomatch z)]
          refine iteT ⟨_, rfl, D, _, 0, _, rfl, rfl, .inl (.inl hD3), atI_nat (j := 0) rfl, ?_⟩
          exact last H3 s03
      refine fun D hD => lc_range (lo := 0) (n := min os.length L.length) (fun i H' => ∃ acc : List Int, H' D = some (.lst (acc.map V.int)) ∧ acc.length ≤ i ∧ Same H1 H' ∧ ((acc = [] ∧ unl os L = i + unl (os.drop i) (L.drop i)) ∨ ∃ r, acc = ((unl os L : Nat) : Int) :: r)) ⟨[], upd_same, Nat.le_refl _, Same.new hD, .inl ⟨rfl, by simp⟩⟩ ?_ ?_
      · rintro i H' hi ⟨acc, ha1, ha2, sm, ha3⟩
        have i1 : i < os.length := by omega
        have i2 : i < L.length := by omega
        have ej : (0 : Int) + (i : Nat) = (i : Int) := by omega
        have hx : os[i]? = some os[i] := List.getElem?_eq_getElem i1
        have hy : L[i]? = some L[i] := List.getElem?_eq_getElem i2
        have hud := unl_drop i os L _ _ hx hy
        refine ⟨rfl, _, rfl, _, rfl, u, _, _, V.int os[i], rfl, rfl, sm.seqT hu1, by rw [ej]; exact atI_nat (by rw [List.getElem?_map, hx]; rfl), _, rfl, _, rfl, t, _, _, V.int L[i], rfl, rfl, sm.seqT ht1, by rw [ej]; exact atI_nat (by rw [List.getElem?_map, hy]; rfl), rfl, _, rfl, ?_⟩
        by_cases c : os[i] = L[i]
        · rw [if_pos c] at hud
          rw [decide_eq_true (show V.int os[i] = V.int L[i] by rw [c])]
          refine iteF ⟨acc, ha1, by omega, sm, ?_⟩
          rcases ha3 with ⟨h1, h3⟩ | h
          · exact .inl ⟨h1, by omega⟩
          · exact .inr h
        · rw [if_neg c] at hud
          rw [decide_eq_false (fun h => c (V.int.inj h))]
          refine iteT ⟨_, rfl, _, ha1, by rw [List.length_map]; exact n_size (by omega), acc ++ [(i : Int)], by rw [upd_same, ej, List.map_append]; rfl, by rw [List.length_append]; exact Nat.succ_le_succ ha2, sm.more hD, ?_⟩
          rcases ha3 with ⟨h1, h3⟩ | ⟨r, h⟩
          · rw [hud] at h3
            rw [h1]
            exact .inr ⟨[], by rw [h3]; rfl⟩
          · exact .inr ⟨r ++ [(i : Int)], by rw [h]; rfl⟩
      · rintro H' ⟨acc, ha1, ha2, sm, ha3⟩
        refine fin D H' acc ha1 sm ?_ _
        rcases ha3 with ⟨h1, h3⟩ | h
        · exact .inl ⟨h1, by rw [unl_end rfl] at h3; omega⟩
        · exact .inr h
    refine ⟨_, pss_cons (ps_asg (pv 2) (pg_tup (by rfl) (pgs_cons (pg_name (i := 4) sc_right.nd rfl (.inl rfl)) (pgs_cons (pg_name (i := 5) sc_right.nd rfl (.inl rfl)) pgs_nil))))
      (pss_cons (ps_asg (pv 3) (pg_tup (by rfl) (pgs_cons (pg_name (i := 6) sc_right.nd rfl (.inl rfl)) (pgs_cons (pg_name (i := 7) sc_right.nd rfl (.inl rfl)) pgs_nil))))
      (pss_cons (ps_if (pt_cmpR (op_eqK (room64 hr)) (pv 0) (pv 1) (nomark _)) (pss_one (ps_ret (pe_cmpR (op_eqK (room64 hr)) (pcall GT hr (by decide) rfl (pa_cons (pv 0) (pa_cons (pv 6) (pa_cons (pv 7) pa_nil)))) (pe_tup (pa_cons (pv 4) (pa_cons pe_non pa_nil))) (nomark _)))) pss_nil)
      (pss_cons (ps_if (PW.pt (pw_and (pt_not (pt_val (pv 5))) (pw_and1 (pt_cmpR (op_gtP (room64 hr)) (pe_tup (pa_cons (pB call_len B.len (pa_cons (pv 1) pa_nil)) (pa_cons (pv 1) pa_nil))) (pe_tup (pa_cons (pB call_len B.len (pa_cons (pv 0) pa_nil)) (pa_cons (pv 0) pa_nil))) (nomark _))))) (pss_one (ps_ret pe_bl)) pss_nil)
      hW))), ?_⟩
    have hcs := hcx.kd
    refine ⟨_, rfl, rh, _, rfl, hrh, rfl, _, _, rfl, _, _, rfl, rfl, ?_⟩
    refine ⟨_, rfl, sz, _, rfl, hsz, rfl, _, _, rfl, _, _, rfl, rfl, ?_⟩
    refine ⟨_, rfl, _, rfl, rK L, rK (ownC MM reads cs), kd_r ht, kd_r hu, by rw [rK_depth]; decide, by rw [rK_depth]; decide, _, rfl, ?_⟩
    rw [if_neg (by decide)]
    by_cases e : ownC MM reads cs = L
    · rw [decide_eq_true (show rK L = rK (ownC MM reads cs) by rw [e])]
      refine iteT ⟨_, rfl, _, rfl, _, rfl, t, L, m, reads, rfl, hm1, hm2, h2, ht, hL, by omega, fun _ v y H2 s2 hv hy => ?_, fun ne => absurd (by rw [hcs0]; exact e) ne⟩
      rw [hcs0] at hy
      refine ⟨_, rfl, by show 2 ≤ sizeLine; decide, fun z hz => ?_⟩
      have s3 : Same H2 (upd H2 z (.tup [cx, .non])) := Same.new hz
      refine ⟨.tup [csK cs, .none], .tup [csK cs, .none], kd_two (s3.seqT hv) (hy.tk s3.tk).kd .non, kd_two (.inl (.inl upd_same)) ((hcx.tk s2.tk).tk s3.tk).kd .non, two_depth (csK_depth cs) non_depth, two_depth (csK_depth cs) non_depth, ?_⟩
      rw [if_neg (by decide), decide_eq_true rfl]
      exact q _ (s2.trans s3)
    · rw [decide_eq_false (fun h => e (rK_inj h).symm)]
      refine iteF ?_
      cases odd with
      | true => exact ⟨_, rfl, _, rfl, iteF (hw H (Same.refl H) e)⟩
      | false =>
        refine ⟨_, rfl, _, rfl, iteT ⟨_, rfl, _, _, rfl, .inr ⟨_, hu, rfl⟩, _, rfl, by show 2 ≤ sizeLine; decide, fun a ha => ⟨_, rfl, _, _, rfl, .inr ⟨_, (Same.new ha).seqT ht, rfl⟩, _, rfl, by show 2 ≤ sizeLine; decide, fun b hb => ?_⟩⟩⟩
        have nab : a ≠ b := fun z => by rw [← z, upd_same] at hb; cases hb
        rw [List.length_map, List.length_map] at *
        have s2 : Same H (upd (upd H a (.tup [.int ((ownC MM reads cs).length : Nat), .ref u])) b (.tup [.int (L.length : Nat), .ref t])) := (Same.new ha).trans (Same.new hb)
        refine ⟨a, b, u, t, ((ownC MM reads cs).length : Nat), (L.length : Nat), ownC MM reads cs, L, rfl, rfl, .inl (.inl (by rw [upd_ne nab, upd_same])), .inl (.inl upd_same), s2.seqT hu, s2.seqT ht, _, rfl, ?_⟩
        obtain ⟨h1, h3⟩ := own_le (M := MM) hL (show readAll MM reads m L = (cs, false) from Prod.ext hcs0 hod0)
        have ef : (if (((ownC MM reads cs).length : Nat) : Int) = ((L.length : Nat) : Int) then (if ownC MM reads cs = L then false else gtL (ownC MM reads cs) L) else decide (((L.length : Nat) : Int) < (((ownC MM reads cs).length : Nat) : Int))) = false := by
          by_cases c : (ownC MM reads cs).length = L.length
          · rw [if_pos (by rw [c]), if_neg e]
            exact gtL_le _ _ c (h3 c)
          · rw [if_neg (by omega)]
            exact decide_eq_false (by omega)
        rw [ef]
        exact iteF (hw _ s2 e)
end K4
namespace K4
open PySem PySem.Spec PyProof.Rows L2
variable {P : Program} {w : World} {K : PySem.W.Frag} {mg : Str → Option Value} {base : Heap}
/-! ### law -/
theorem valN_mem {es : List Ent} {k : NestedKey} {v : V} (h : valN es k = some v) : ∃ e ∈ es, e.1 = k ∧ e.2.2 = v := by
  unfold valN at h
  obtain ⟨e, he, rfl⟩ := Option.map_eq_some_iff.mp h
  exact ⟨e, List.mem_of_find?_eq_some he, of_decide_eq_true (List.find?_some (p := fun p : Ent => decide (p.1 = k)) he), rfl⟩
theorem valN_new {es : List Ent} {k : NestedKey} {a : Addr} {v : V} (h : valN es k = none) : valN (es ++ [(k, a, v)]) k = some v := by
  unfold valN at h ⊢
  rw [Option.map_eq_none_iff] at h
  rw [List.find?_append, h]
  show ((([(k, a, v)] : List Ent).find? fun p => decide (p.1 = k)).map (·.2.2)) = some v
  rw [List.find?_cons_of_pos (by exact decide_eq_true rfl)]
  rfl
theorem valN_more {es fs : List Ent} {k : NestedKey} (h : (valN es k).isSome = true) : (valN (es ++ fs) k).isSome = true := by
  unfold valN at h ⊢
  rw [Option.isSome_map] at h ⊢
  rw [List.find?_append]
  cases e : es.find? fun p => decide (p.1 = k) with
  | none => rw [e] at h; cases h
  | some x => rfl
def Th (K : PySem.W.Frag) (H : Hp) (reads m : Nat) (es : List Ent) : Prop := ∀ e ∈ es, ∃ (cs : List Ch) (u : Addr), e.1 = csK cs ∧ e.2.2 = .ref u ∧ IsCt K H (.ref e.2.1) cs ∧ SqT K H u ((ownC MM reads cs).map V.int) ∧ allOk reads m cs
def Ow (K : PySem.W.Frag) (H : Hp) (reads m : Nat) (es fs : List Ent) : Prop := ∀ f ∈ fs, ∃ cs : List Ch, f.1 = rK (ownC MM reads cs) ∧ SqT K H f.2.1 ((ownC MM reads cs).map V.int) ∧ allOk reads m cs ∧ (valN es (csK cs)).isSome = true
theorem Th.tk {H H' : Hp} {reads m : Nat} {es : List Ent} (h : Th K H reads m es) (t : TK K H H') : Th K H' reads m es := fun e he => by
  obtain ⟨cs, u, h1, h2, h3, h4, h5⟩ := h e he
  exact ⟨cs, u, h1, h2, h3.tk t, t _ _ h4, h5⟩
theorem Ow.tk {H H' : Hp} {reads m : Nat} {es fs : List Ent} (h : Ow K H reads m es fs) (t : TK K H H') : Ow K H' reads m es fs := fun f hf => by
  obtain ⟨cs, h1, h2, h3, h4⟩ := h f hf
  exact ⟨cs, h1, t _ _ h2, h3, h4⟩
theorem Th.keys {H : Hp} {reads m : Nat} {es : List Ent} (h : Th K H reads m es) : KeysN K H es := fun e he => by
  obtain ⟨cs, u, h1, h2, h3, h4, h5⟩ := h e he
  rw [h1]
  exact ⟨h3.kd, Nat.le_trans (csK_depth cs) (by decide)⟩
theorem Ow.keys {H : Hp} {reads m : Nat} {es fs : List Ent} (h : Ow K H reads m es fs) : KeysN K H fs := fun f hf => by
  obtain ⟨cs, h1, h2, h3, h4⟩ := h f hf
  rw [h1]
  exact ⟨kd_r h2, by rw [rK_depth]; decide⟩
theorem St.ext {H : Hp} {st td : Addr} {p : Heap → Prop} {o : HO} (S : St H st) (h : H td = some (.ext p)) : St (upd H td o) st := by
  obtain ⟨c, l, k, cs, h1, h2, h3⟩ := S
  exact ⟨c, l, k, cs, by rw [upd_ne (ne_of h1 h (fun z => nomatch z))]; exact h1, by rw [upd_ne (ne_of h2 h (fun z => nomatch z))]; exact h2, h3⟩
theorem ext_tk {H : Hp} {td : Addr} {p : Heap → Prop} {o : HO} (h : H td = some (.ext p)) : TK K H (upd H td o) := TK.upd (by rw [h]; trivial)
theorem Th.get {H : Hp} {reads m : Nat} {es : List Ent} {cs : List Ch} (h : Th K H reads m es) (hc : allOk reads m cs) (hv : (valN es (csK cs)).isSome = true) : ∃ uo : Addr, valN es (csK cs) = some (.ref uo) ∧ SqT K H uo ((ownC MM reads cs).map V.int) := by
  obtain ⟨v, ev⟩ := Option.isSome_iff_exists.mp hv
  obtain ⟨e, he, h1, h2⟩ := valN_mem ev
  obtain ⟨cs', u, g1, g2, g3, g4, g5⟩ := h e he
  have : cs = cs' := (csK_iff hc g5).mp (h1.symm.trans g1)
  subst this
  exact ⟨u, by rw [ev, ← h2, g2], g4⟩
structure Iv (P : Program) (w : World) (K : PySem.W.Frag) (st rl td od : Addr) (xs : List V) (reads m i : Nat) (es fs : List Ent) (H : Hp) : Prop where
  S : St H st
  hr : H rl = some (.lst xs)
  rows : ∀ x ∈ xs, IsRow K H x
  htd : H td = some (dN P w td es)
  hod : H od = some (dN P w od fs)
  th : Th K H reads m es
  ow : Ow K H reads m es fs
  l1 : es.length ≤ i
  l2 : fs.length ≤ i
section
variable {st rl td od : Addr} {xs : List V} {reads m i : Nat} {es fs : List Ent} {H H' : Hp}
theorem Iv.same (I : Iv P w K st rl td od xs reads m i es fs H) (s : Same H H') : Iv P w K st rl td od xs reads m i es fs H' :=
  ⟨I.S.same s, s _ _ I.hr, fun x hx => (I.rows x hx).tk s.tk, s _ _ I.htd, s _ _ I.hod, I.th.tk s.tk, I.ow.tk s.tk, I.l1, I.l2⟩
theorem Iv.up (I : Iv P w K st rl td od xs reads m i es fs H) : Iv P w K st rl td od xs reads m (i + 1) es fs H := ⟨I.S, I.hr, I.rows, I.htd, I.hod, I.th, I.ow, Nat.le_succ_of_le I.l1, Nat.le_succ_of_le I.l2⟩
theorem Iv.put (I : Iv P w K st rl td od xs reads m i es fs H) (n : td ≠ od) {ya uo : Addr} {cs : List Ch} (hy : IsCt K H (.ref ya) cs) (hu : SqT K H uo ((ownC MM reads cs).map V.int)) (hc : allOk reads m cs) (hv : valN es (csK cs) = none) :
    Iv P w K st rl td od xs reads m (i + 1) (es ++ [(csK cs, ya, .ref uo)]) (fs ++ [(rK (ownC MM reads cs), uo, .bl true)]) (upd (upd H td (dN P w td (es ++ [(csK cs, ya, .ref uo)]))) od (dN P w od (fs ++ [(rK (ownC MM reads cs), uo, .bl true)]))) := by
  have hod2 : upd H td (dN P w td (es ++ [(csK cs, ya, .ref uo)])) od = some (dN P w od fs) := by rw [upd_ne n.symm]; exact I.hod
  have t1 : TK K H (upd H td (dN P w td (es ++ [(csK cs, ya, .ref uo)]))) := ext_tk I.htd
  have t2 : TK K (upd H td (dN P w td (es ++ [(csK cs, ya, .ref uo)]))) (upd (upd H td (dN P w td (es ++ [(csK cs, ya, .ref uo)]))) od (dN P w od (fs ++ [(rK (ownC MM reads cs), uo, .bl true)]))) := ext_tk hod2
  have t := t1.trans t2
  refine ⟨(I.S.ext I.htd).ext hod2, ?_, fun x hx => (I.rows x hx).tk t, by rw [upd_ne n, upd_same], upd_same, fun e he => ?_, fun f hf => ?_, by rw [List.length_append]; exact Nat.succ_le_succ I.l1, by rw [List.length_append]; exact Nat.succ_le_succ I.l2⟩
  · rw [upd_ne (ne_of I.hr I.hod (fun z => nomatch z)), upd_ne (ne_of I.hr I.htd (fun z => nomatch z))]
    exact I.hr
  · rcases List.mem_append.mp he with h | h
    · exact I.th.tk t e h
    · rw [List.mem_singleton] at h
      subst h
      exact ⟨cs, uo, rfl, rfl, hy.tk t, t _ _ hu, hc⟩
  · rcases List.mem_append.mp hf with h | h
    · obtain ⟨cs', h1, h2, h3, h4⟩ := I.ow.tk t f h
      exact ⟨cs', h1, h2, h3, valN_more h4⟩
    · rw [List.mem_singleton] at h
      subst h
      exact ⟨cs, rfl, t _ _ hu, hc, by rw [valN_new hv]; rfl⟩
end
def spLaw (K : PySem.W.Frag) : Sp := fun vs H Q _ => ∃ (a : Addr) (ns : List Int), vs = [.ref a] ∧ SqL K H a (ns.map V.int) ∧ ns.length ≤ 63 ∧ ∀ H', Q (.bl true) H'
theorem sc_law : FnScope ["_law_script", "_law_state", "_law_turn", "_law_wide", "_law_reads", "_law_theirs", "_law_own_ones", "_law_some", "_law_choices", "_law_odd", "_law_own"] ["_law_script"] (defScope s_law) := ⟨rfl, rfl, rfl, by decide +kernel, rfl, by decide +kernel, by decide +kernel⟩
theorem fnok' {x : Str} {st : Stmt} {N ps : List Str} {k : Nat} {sp : Sp} {fd : FuncData} (F : FnP K x x st (He.ga K x) fd) (S : FnScope N ps (defScope st)) (len : ∀ vs H Q E, sp vs H Q E → vs.length = ps.length)
    (hbody : ∀ (cdv : Value) (A : Around) (outer : List Env) (s : Shared) (H : Hp) (vs : List V) (Q : VK) (E : XK), Room k (A.deeper (envOfC x (defScope st) s.heap.objs.size (He.ga K x) cdv)) → sp vs H Q E →
      ∃ t, PSs (cxOf CX0 P w K mg base N x (defScope st) (He.ga K x) cdv A outer s H E).nox (defBody st) t ∧ t { nx := fun _ H' => Q .non H', rt := Q } (start N vs) H) : FnOk P w K mg base CX0 (k + 1) (He.ga K x) fd ps sp := by
  refine F.ok S len fun cdv A outer s H vs Q E hr h => ?_
  obtain ⟨t, h1, h2⟩ := hbody cdv A outer s H vs Q E hr h
  exact ⟨t, h1.nox, h2⟩
theorem d_law (B : Bt mg) {fd : FuncData} (F : FnP K "law" "law" s_law (He.ga K "law") fd) (GB : Dk P w K mg base CX0 1 "_law_begin" ["_law_script"] (spBegin K)) (GN : Dk P w K mg base CX0 2 "_law_next" ["_law_state", "_law_most"] spNext) (GW : Dk P w K mg base CX0 4 "_law_rows_of" ["_law_state"] (spRows K))
    (GR : Dk P w K mg base CX0 6 "_law_read" ["_law_some", "_law_wide", "_law_reads"] (spRead K)) (GL : Dk P w K mg base CX0 7 "letters_of" ["choices", "wide", "tall", "reads"] (spLetOf K)) (GT : Dk P w K mg base CX0 12 "_law_is_theirs" ["_law_own", "_law_choices", "_law_wide", "_law_reads"] (spTheirs K))
    (GG : Dk P w K mg base CX0 12 "_law_right" ["_law_some", "_law_own", "_law_read_here", "_law_sizes"] (spRight K)) : FnOk P w K mg base CX0 13 (He.ga K "law") fd ["_law_script"] (spLaw K) := by
  refine fnok' F sc_law (fun vs H Q E h => ?_) (fun cdv A outer s H vs Q E hr h => ?_)
  · obtain ⟨a, ns, rfl, _⟩ := h
    rfl
  · obtain ⟨a, ns, rfl, ha, hn, q⟩ := h
    refine ⟨_, pss_cons (ps_set (i := 1) sc_law.nd rfl (.inl rfl) (pcall GB hr (by decide) rfl (pa_cons (pv 0) pa_nil)))
      (pss_cons (ps_for PassesOwn.never rfl (pi_range1 rfl B.range (pa_cons (pB (call_max2 rfl) B.max (pa_cons pe_int (pa_cons (pB (call_min2 rfl) B.min (pa_cons (pB call_len B.len (pa_cons (pv 0) pa_nil)) (pa_cons pe_int pa_nil))) pa_nil))) pa_nil)) (pg_name (i := 2) sc_law.nd rfl (.inl rfl))
        (pss_cons (ps_asg (pe_tup (pa_cons (pe_op op_add pe_int (pe_op op_mul pe_int (pcall GN hr (by decide) rfl (pa_cons (pv 1) (pa_cons pe_int pa_nil))))) (pa_cons (pcall GN hr (by decide) rfl (pa_cons (pv 1) (pa_cons pe_int pa_nil))) (pa_cons pe_nnew (pa_cons pe_nnew pa_nil)))))
            (pg_tup (by rfl) (pgs_cons (pg_name (i := 3) sc_law.nd rfl (.inl rfl)) (pgs_cons (pg_name (i := 4) sc_law.nd rfl (.inl rfl)) (pgs_cons (pg_name (i := 5) sc_law.nd rfl (.inl rfl)) (pgs_cons (pg_name (i := 6) sc_law.nd rfl (.inl rfl)) pgs_nil))))))
        (pss_one (ps_for PassesOwn.never rfl (pi_list (pcall GW hr (by decide) rfl (pa_cons (pv 1) pa_nil))) (pg_name (i := 7) sc_law.nd rfl (.inl rfl))
          (pss_cons (ps_asg (pcall GR hr (by decide) rfl (pa_cons (pv 7) (pa_cons (pv 3) (pa_cons (pv 4) pa_nil)))) (pg_tup (by rfl) (pgs_cons (pg_name (i := 8) sc_law.nd rfl (.inl rfl)) (pgs_cons (pg_name (i := 9) sc_law.nd rfl (.inl rfl)) pgs_nil))))
          (pss_cons (ps_if (pt_cmpR (op_notInN (room9 hr)) (pv 8) (pv 5) (by rfl))
            (pss_cons (ps_set (i := 10) sc_law.nd rfl (.inl rfl) (pcall GL hr (by decide) rfl (pa_cons (pv 8) (pa_cons (pv 3) (pa_cons pe_int (pa_cons (pv 4) pa_nil))))))
            (pss_cons (ps_if (PW.pt (pw_or (pt_cmpR (op_inN (room9 hr)) (pv 10) (pv 6) (by rfl)) (pw_or1 (pt_not (pt_val (pcall GT hr (by decide) rfl (pa_cons (pv 10) (pa_cons (pv 8) (pa_cons (pv 3) (pa_cons (pv 4) pa_nil)))))))))) (pss_one (ps_ret pe_bl)) pss_nil)
            (pss_cons (ps_nput (room9 hr) (pv 5) (pv 8) (pv 10) (by rfl))
            (pss_one (ps_nput (room9 hr) (pv 6) (pv 10) pe_bl (by rfl)))))) pss_nil)
          (pss_one (ps_if (pt_not (pt_val (pcall GG hr (by decide) rfl (pa_cons (pv 7) (pa_cons (pe_nget (room9 hr) (pv 5) (pv 8) (fun _ _ => rfl)) (pa_cons (pe_tup (pa_cons (pv 8) (pa_cons (pv 9) pa_nil))) (pa_cons (pe_tup (pa_cons (pv 3) (pa_cons (pv 4) pa_nil))) pa_nil))))))) (pss_one (ps_ret pe_bl)) pss_nil))))))))
      (pss_one (ps_ret pe_bl))), ?_⟩
    refine ⟨_, rfl, a, ns, rfl, ha, by omega, fun st H1 hst s1 S1 => ?_⟩
    have ha1 : SqL K H1 a (ns.map V.int) := by
      rcases ha with (h | ⟨ob, h⟩) | h
      · exact .inl (.inl (s1 _ _ h))
      · exact .inl (.inr ⟨ob, s1 _ _ h⟩)
      · exact .inr h
    refine ⟨_, rfl, _, _, rfl, .inl ⟨_, ha1, rfl⟩, _, _, rfl, _, _, rfl, _, rfl, ?_, ?_, for_range (lo := 0) (n := _) (fun i σ H' => ∃ z2 z3 z4 z5 z6 z7 z8 z9 z10 : Option V, σ = [some (.ref a), some (.ref st), z2, z3, z4, z5, z6, z7, z8, z9, z10] ∧ St H' st) ⟨none, none, none, none, none, none, none, none, none, rfl, S1⟩ ?_ ?_⟩
    · rw [List.length_map]; split <;> split <;> omega
    · rw [List.length_map]; split <;> split <;> omega
    · rintro j σ H2 hj ⟨z2, z3, z4, z5, z6, z7, z8, z9, z10, rfl, S2⟩
      refine ⟨_, rfl, st, 2, rfl, by decide, by decide, S2, fun w0 H3 w00 w01 S3 b3 => ⟨_, _, rfl, rfl, .inl ⟨by decide, by decide⟩, _, _, rfl, rfl, _, rfl, st, 3, rfl, by decide, by decide, S3, fun r0 H4 r00 r01 S4 b4 => fun td htd => fun od hod => ⟨by show 4 ≤ sizeLine; decide, fun T0 hT0 => ?_⟩⟩⟩
      obtain ⟨m, hm⟩ : ∃ m : Nat, 4 + 4 * w0 = ((4 * m : Nat) : Int) := ⟨w0.toNat + 1, by omega⟩
      obtain ⟨reads, hrd⟩ : ∃ r : Nat, r0 = (r : Int) := ⟨r0.toNat, by omega⟩
      subst hrd
      have hm1 : 1 ≤ m := by omega
      have hm2 : m ≤ 2 := by omega
      have h2 : reads ≤ 2 := by omega
      have nto : td ≠ od := fun e => by rw [← e, upd_same] at hod; cases hod
      refine ⟨T0, _, rfl, .inl (.inl upd_same), rfl, _, _, rfl, _, _, rfl, _, _, rfl, _, _, rfl, rfl, ?_⟩
      have e4 : Same H4 (upd (upd H4 td (dN P w td [])) od (dN P w od [])) := (Same.new htd).trans (Same.new hod)
      have e5 : Same H4 (upd (upd (upd H4 td (dN P w td [])) od (dN P w od [])) T0 (.tup [.int (4 + 4 * w0), .int reads, .ref td, .ref od])) := e4.trans (Same.new hT0)
      have g1 : upd (upd (upd H4 td (dN P w td [])) od (dN P w od [])) T0 (.tup [.int (4 + 4 * w0), .int reads, .ref td, .ref od]) td = some (dN P w td []) := (Same.new hT0 : Same (upd (upd H4 td (dN P w td [])) od (dN P w od [])) _) _ _ (by rw [upd_ne nto, upd_same])
      have g2 : upd (upd (upd H4 td (dN P w td [])) od (dN P w od [])) T0 (.tup [.int (4 + 4 * w0), .int reads, .ref td, .ref od]) od = some (dN P w od []) := (Same.new hT0 : Same (upd (upd H4 td (dN P w td [])) od (dN P w od [])) _) _ _ upd_same
      have S5 := S4.same e5
      refine ⟨_, rfl, st, rfl, S5, fun rl xs H6 hrl hxl hrows S6 b6 => ?_⟩
      have k1 : H6 td = some (dN P w td []) := b6 _ _ g1 (by obtain ⟨c, l, k, cs, h1, _⟩ := S5; exact ne_of g1 h1 (fun z => nomatch z)) (by obtain ⟨c, l, k, cs, h1, _⟩ := S5; exact ne_of g1 h1 (fun z => nomatch z))
      have k2 : H6 od = some (dN P w od []) := b6 _ _ g2 (by obtain ⟨c, l, k, cs, h1, _⟩ := S5; exact ne_of g2 h1 (fun z => nomatch z)) (by obtain ⟨c, l, k, cs, h1, _⟩ := S5; exact ne_of g2 h1 (fun z => nomatch z))
      refine ⟨rl, rfl, ⟨_, .inl (.inl hrl)⟩, for_list (K := K) (a := rl) (xs := xs) (fun i σ H' => ∃ (z7 z8 z9 z10 : Option V) (es fs : List Ent), σ = [some (.ref a), some (.ref st), some (.int (0 + (j : Nat))), some (.int (4 + 4 * w0)), some (.int reads), some (.ref td), some (.ref od), z7, z8, z9, z10] ∧ Iv P w K st rl td od xs reads m i es fs H')
        ⟨_, _, _, _, [], [], rfl, S6, hrl, hrows, k1, k2, (fun e he => nomatch he), (fun e he => nomatch he), Nat.le_refl _, Nat.le_refl _⟩ (fun i σ H' _ ⟨_, _, _, _, _, _, _, I⟩ => .inl (.inl I.hr)) ?_ ?_⟩
      · rintro i x σ H' hx ⟨z7, z8, z9, z10, es, fs, rfl, I⟩
        have hix : i < xs.length := (List.getElem?_eq_some_iff.mp hx).1
        obtain ⟨t, L, rfl, ht, hL, hLl⟩ := I.rows x (List.mem_of_getElem? hx)
        refine ⟨_, rfl, _, rfl, _, rfl, t, L, m, reads, by rw [hm] <;> rfl, hm1, hm2, h2, ht, fun u y H7 s7 hu hy => ?_⟩
        obtain ⟨ya, rfl⟩ : ∃ ya, y = .ref ya := by
          obtain ⟨b, _, e, _⟩ := hy
          exact ⟨b, e⟩
        have hal := read_ok (M := MM) (reads := reads) (m := m) hL
        generalize hcs0 : (readAll MM reads m L).1 = cs at hy hal
        refine ⟨u, _, rfl, hu, rfl, _, _, rfl, _, _, rfl, rfl, ?_⟩
        have I7 := I.same s7
        have ht7 := s7.seqT ht
        refine ⟨_, rfl, _, rfl, ya, td, csK cs, es, rfl, rfl, hy.kd, Nat.le_trans (csK_depth cs) (by decide), I7.htd, I7.th.keys, _, rfl, ?_⟩
        rw [if_pos rfl]
        cases hv : (valN es (csK cs)).isSome with
        | true =>
          refine iteF ?_
          obtain ⟨uo', hval', how'⟩ := (I7.up).th.get hal hv
          refine ⟨_, rfl, _, rfl, _, rfl, ya, td, csK cs, _, _, rfl, rfl, (hy).kd, Nat.le_trans (csK_depth cs) (by decide), (I7.up).htd, (I7.up).th.keys, hval', _, rfl, _, rfl, by show 2 ≤ sizeLine; decide, fun rh hrh => ⟨_, rfl, _, rfl, by show 2 ≤ sizeLine; decide, fun sz hsz => ?_⟩⟩
          have nrs : rh ≠ sz := fun e => by rw [← e, upd_same] at hsz; cases hsz
          have sF := (Same.new (o := .tup [.ref ya, .bl (readAll MM reads m L).2]) hrh).trans (Same.new (o := .tup [.int (4 + 4 * w0), .int reads]) hsz)
          refine ⟨t, uo', rh, sz, .ref ya, L, m, reads, rfl, hm1, hm2, h2, sF.seqT (ht7), hL, hLl, sF.seqT (by rw [hcs0]; exact how'), .inl (.inl (by rw [upd_ne nrs, upd_same])), by rw [hcs0]; exact (hy).tk sF.tk, .inl (.inl (by rw [← hm]; exact upd_same)), fun H9 s9 => ⟨_, rfl, iteF ?_⟩⟩
          exact ⟨_, _, _, _, _, _, rfl, ((I7.up).same sF).same s9⟩
        | false =>
          have hvn : valN es (csK cs) = none := by
            cases e : valN es (csK cs) with
            | none => rfl
            | some v => rw [e] at hv; cases hv
          refine iteT ⟨_, rfl, _, rfl, _, rfl, .ref ya, cs, m, reads, by rw [hm] <;> rfl, hm1, hm2, h2, hy, hal, fun uo H8 _ s8 huo => ?_⟩
          have I8 := I7.same s8
          have hu8 : SqT K H8 uo ((ownC MM reads cs).map V.int) := .inl (.inl huo)
          have hnf : valN fs (rK (ownC MM reads cs)) = none := by
            cases e : valN fs (rK (ownC MM reads cs)) with
            | none => rfl
            | some v =>
              obtain ⟨f, hf, f1, _⟩ := valN_mem e
              obtain ⟨cs', g1, _, g3, g4⟩ := I8.ow f hf
              have ec : cs = cs' := own_inj (M := MM) hal g3 (rK_inj (f1.symm.trans g1))
              rw [← ec, hv] at g4
              cases g4
          refine ⟨_, rfl, _, rfl, uo, od, rK (ownC MM reads cs), fs, rfl, rfl, kd_r hu8, by rw [rK_depth]; decide, I8.hod, I8.ow.keys, _, rfl, ?_⟩
          rw [if_neg (by decide), hnf]
          refine iteF ⟨_, rfl, _, rfl, _, rfl, _, rfl, uo, .ref ya, cs, m, reads, by rw [hm] <;> rfl, hm1, hm2, h2, hu8, hy.tk s8.tk, hal, fun H9 s9 => ⟨_, rfl, iteF ?_⟩⟩
          have I9 := I8.same s9
          have hu9 := s9.seqT hu8
          have hy9 := (hy.tk s8.tk).tk s9.tk
          have ht9 := s9.seqT (s8.seqT ht7)
          have IF := I9.put nto hy9 hu9 hal hvn
          have tA : TK K H9 (upd H9 td (dN P w td (es ++ [(csK cs, ya, .ref uo)]))) := ext_tk I9.htd
          have hod9 : upd H9 td (dN P w td (es ++ [(csK cs, ya, .ref uo)])) od = some (dN P w od fs) := by rw [upd_ne nto.symm]; exact I9.hod
          have tB : TK K H9 (upd (upd H9 td (dN P w td (es ++ [(csK cs, ya, .ref uo)]))) od (dN P w od (fs ++ [(rK (ownC MM reads cs), uo, .bl true)]))) := tA.trans (ext_tk hod9)
          refine ⟨_, rfl, _, rfl, _, rfl, ya, td, csK cs, es, rfl, rfl, hy9.kd, Nat.le_trans (csK_depth cs) (by decide), I9.htd, I9.th.keys, hvn, by have := I9.l1; omega, ?_⟩
          refine ⟨_, rfl, _, rfl, uo, od, rK (ownC MM reads cs), fs, rfl, rfl, kd_r (tA _ _ hu9), by rw [rK_depth]; decide, hod9, (I9.ow.tk tA).keys, hnf, by have := I9.l2; omega, ?_⟩
          obtain ⟨uo', hval', how'⟩ := (IF).th.get hal (by rw [valN_new hvn]; rfl)
          refine ⟨_, rfl, _, rfl, _, rfl, ya, td, csK cs, _, _, rfl, rfl, (hy9.tk tB).kd, Nat.le_trans (csK_depth cs) (by decide), (IF).htd, (IF).th.keys, hval', _, rfl, _, rfl, by show 2 ≤ sizeLine; decide, fun rh hrh => ⟨_, rfl, _, rfl, by show 2 ≤ sizeLine; decide, fun sz hsz => ?_⟩⟩
          have nrs : rh ≠ sz := fun e => by rw [← e, upd_same] at hsz; cases hsz
          have sF := (Same.new (o := .tup [.ref ya, .bl (readAll MM reads m L).2]) hrh).trans (Same.new (o := .tup [.int (4 + 4 * w0), .int reads]) hsz)
          refine ⟨t, uo', rh, sz, .ref ya, L, m, reads, rfl, hm1, hm2, h2, sF.seqT (tB _ _ ht9), hL, hLl, sF.seqT (by rw [hcs0]; exact how'), .inl (.inl (by rw [upd_ne nrs, upd_same])), by rw [hcs0]; exact (hy9.tk tB).tk sF.tk, .inl (.inl (by rw [← hm]; exact upd_same)), fun H9 s9 => ⟨_, rfl, iteF ?_⟩⟩
          exact ⟨_, _, _, _, _, _, rfl, ((IF).same sF).same s9⟩
      · rintro σ H' ⟨z7, z8, z9, z10, es, fs, rfl, I⟩
        exact ⟨_, _, _, _, _, _, _, _, _, rfl, I.S⟩
    · rintro σ H2 ⟨z2, z3, z4, z5, z6, z7, z8, z9, z10, rfl, S2⟩
      exact q _
end K4
set_option maxHeartbeats 0
namespace K4
open PySem PySem.Spec PyProof.Rows L2
/-! ### all promises, one behind the other -/
section
variable {P : Program} {w : World} {K : PySem.W.Frag} {mg : Str → Option Value} {base : Heap} {h : Heap}
theorem dfx (X : K.In h) (G : h.Ns mainGlobals mg) (c : He.SaysD hFa hFn K) (i j : Nat) {x : Str} {s : Stmt} (e : hFn[i]? = some (dd x s)) (g : hFa[j]? = some (.glo x)) : Df K mg x s := ⟨c.def_ i e, He.glo_ok X G (c.fact j g)⟩
theorem dmx (c : He.SaysD hFa hFn K) (i j : Nat) {C m q : Str} {s : Stmt} (e : hFn[i]? = some (dm C m q s)) (g : hFa[j]? = some (.meth C m)) : Dm K (He.ga K C) m q s := ⟨c.def_ i e, He.meth_ok (c.fact j g)⟩
theorem fmx (c : He.SaysD hFa hFn K) (i : Nat) {C m q : Str} {s : Stmt} (e : hFn[i]? = some (dm C m q s)) : ∃ fd, FnP K m q s (He.ma K (He.ga K C) m) fd := c.def_ i e
theorem exR_len' {L : List Int} {t : Addr} : ∀ n, (exR L t n).length ≤ 100 := fun _ => by show 2 ≤ 100; decide
theorem all_kept (X : K.In h) (G : h.Ns mainGlobals mg) (c : He.SaysD hFa hFn K) (T : Tb K w mg) (bl : BlF K) (Rse : Cr K (He.ga K "ShownError") "__init__" (.builtin "ValueError.__init__")) (Rco : Cr K (He.ga K "Coder") "__init__" (.ref (He.ma K (He.ga K "Coder") "__init__")))
    {fd : FuncData} (F : FnP K "law" "law" s_law (He.ga K "law") fd) : FnOk P w K mg base CX0 13 (He.ga K "law") fd ["_law_script"] (spLaw K) := by
  have B : Bt mg := ⟨He.free_ok X G (c.fact 58 (f := .free "len") rfl), He.free_ok X G (c.fact 59 (f := .free "range") rfl), He.free_ok X G (c.fact 60 (f := .free "isinstance") rfl), He.free_ok X G (c.fact 61 (f := .free "int") rfl), He.free_ok X G (c.fact 62 (f := .free "bool") rfl), He.free_ok X G (c.fact 63 (f := .free "list") rfl), He.free_ok X G (c.fact 64 (f := .free "tuple") rfl), He.free_ok X G (c.fact 65 (f := .free "str") rfl), He.free_ok X G (c.fact 66 (f := .free "all") rfl), He.free_ok X G (c.fact 67 (f := .free "zip") rfl), He.free_ok X G (c.fact 68 (f := .free "enumerate") rfl), He.free_ok X G (c.fact 69 (f := .free "abs") rfl), He.free_ok X G (c.fact 70 (f := .free "min") rfl), He.free_ok X G (c.fact 71 (f := .free "max") rfl), He.free_ok X G (c.fact 72 (f := .free "sorted") rfl)⟩
  have N : Ct mg := ⟨He.int_ok X G (c.fact 73 (f := .int "LEAST_SIDE" 4) rfl), He.int_ok X G (c.fact 74 (f := .int "MOST_SIDE" 32) rfl), He.int_ok X G (c.fact 75 (f := .int "MOST_VECTOR" 32) rfl), He.int_ok X G (c.fact 76 (f := .int "MOST_REST" 4000) rfl), He.int_ok X G (c.fact 77 (f := .int "MOST_READS" 2) rfl), He.int_ok X G (c.fact 78 (f := .int "EVEN" 1024) rfl), He.int_ok X G (c.fact 79 (f := .int "WHOLE" 2048) rfl), He.int_ok X G (c.fact 80 (f := .int "SLOW" 32) rfl), He.int_ok X G (c.fact 81 (f := .int "LEAST_BREADTH" 16777216) rfl), He.int_ok X G (c.fact 82 (f := .int "FIRST_BREADTH" 4294967296) rfl), He.int_ok X G (c.fact 83 (f := .int "AHEAD" 4) rfl), He.int_ok X G (c.fact 84 (f := .int "MOST_NUMBER" 8190) rfl), He.int_ok X G (c.fact 85 (f := .int "TURN" 65) rfl)⟩
  have cW : Cc K (He.ga K "Writer") := ⟨He.cls_ok (c.fact 86 (f := .cls "Writer") rfl), He.noat_ok (c.fact 88 (f := .noat "Writer" "low") rfl), He.noat_ok (c.fact 89 (f := .noat "Writer" "breadth") rfl), He.noat_ok (c.fact 90 (f := .noat "Writer" "room") rfl), He.noat_ok (c.fact 91 (f := .noat "Writer" "sent") rfl), He.noat_ok (c.fact 92 (f := .noat "Writer" "learned_ones") rfl)⟩
  have cR : Crd K (He.ga K "Reader") := ⟨⟨He.cls_ok (c.fact 87 (f := .cls "Reader") rfl), He.noat_ok (c.fact 93 (f := .noat "Reader" "low") rfl), He.noat_ok (c.fact 94 (f := .noat "Reader" "breadth") rfl), He.noat_ok (c.fact 95 (f := .noat "Reader" "room") rfl), He.noat_ok (c.fact 96 (f := .noat "Reader" "sent") rfl), He.noat_ok (c.fact 97 (f := .noat "Reader" "learned_ones") rfl)⟩, He.noat_ok (c.fact 98 (f := .noat "Reader" "signs") rfl), He.noat_ok (c.fact 99 (f := .noat "Reader" "code") rfl)⟩
  have noAt : PySem.W.findIn K (.ref (He.ga K "BadLetters")) "at" = some none := He.noat_ok (c.fact 100 (f := .noat "BadLetters" "at") rfl)
  obtain ⟨fdW, FWi⟩ := (fmx c 66 rfl : ∃ fd, FnP K "__init__" "Coder.__init__" sm_Coder_init (He.ma K (He.ga K "Writer") "__init__") fd)
  obtain ⟨fdR, FRi⟩ := (fmx c 67 rfl : ∃ fd, FnP K "__init__" "Reader.__init__" sm_Reader_init (He.ma K (He.ga K "Reader") "__init__") fd)
  obtain ⟨fdC, FCi⟩ := (fmx c 68 rfl : ∃ fd, FnP K "__init__" "Coder.__init__" sm_Coder_init (He.ma K (He.ga K "Coder") "__init__") fd)
  obtain ⟨fdB, FBi⟩ := (fmx c 69 rfl : ∃ fd, FnP K "__init__" "BadLetters.__init__" sm_BadLetters_init (He.ma K (He.ga K "BadLetters") "__init__") fd)
  have Gwh := d_is_whole (P := P) (w := w) (mg := mg) (base := base) B (dfx X G c 0 0 rfl rfl : Df K mg "is_whole" s_is_whole)
  have Gside := d_is_side N (dfx X G c 2 2 rfl rfl : Df K mg "is_side" s_is_side) Gwh
  have Glet := d_is_letter (dfx X G c 3 3 rfl rfl : Df K mg "is_letter" s_is_letter) Gwh
  have Glis := d_is_list (P := P) (w := w) (mg := mg) (base := base) B (dfx X G c 1 1 rfl rfl : Df K mg "is_list" s_is_list)
  have Gns := d_need_size (dfx X G c 24 24 rfl rfl : Df K mg "need_size" s_need_size) Gside
  have Gnsg := d_need_sign (dfx X G c 14 14 rfl rfl : Df K mg "need_sign" s_need_sign) Gwh
  have Gsi := d_signs_in (P := P) (w := w) (mg := mg) (base := base) (dfx X G c 11 11 rfl rfl : Df K mg "signs_in" s_signs_in)
  have Gpo := d_power (P := P) (w := w) (mg := mg) (base := base) (dfx X G c 36 36 rfl rfl : Df K mg "_law_power" s_law_power)
  have Gvp := d_vector_part (P := P) (w := w) (mg := mg) (base := base) N (dfx X G c 17 17 rfl rfl : Df K mg "vector_part" s_vector_part)
  have Glo := d_lower (P := P) (w := w) (mg := mg) (base := base) B (dfx X G c 12 12 rfl rfl : Df K mg "lower_signs" s_lower_signs)
  have Glin := d_letters_in (P := P) (w := w) (mg := mg) (base := base) B (dfx X G c 13 13 rfl rfl : Df K mg "letters_in" s_letters_in)
  have Wch := d_chance (P := P) (w := w) (mg := mg) (base := base) N cW (dmx c 49 101 rfl rfl : Dm K (He.ga K "Writer") "chance_of" "Coder.chance_of" sm_Coder_chance_of)
  have Wle := d_learn (P := P) (w := w) (mg := mg) (base := base) N cW (dmx c 50 102 rfl rfl : Dm K (He.ga K "Writer") "learn" "Coder.learn" sm_Coder_learn)
  have Wca := d_came (P := P) (w := w) (mg := mg) (base := base) cW.cl (dmx c 52 104 rfl rfl : Dm K (He.ga K "Writer") "came" "Coder.came" sm_Coder_came)
  have Wna := d_narrowed N cW J0_kept ex0_no ex0_len (dmx c 51 103 rfl rfl : Dm K (He.ga K "Writer") "narrowed" "Coder.narrowed" sm_Coder_narrowed) Wca
  have Win := d_init (P := P) (w := w) (mg := mg) (base := base) N cW FWi
  have Wbit := d_wbit N cW (dmx c 53 105 rfl rfl : Dm K (He.ga K "Writer") "bit" "Writer.bit" sm_Writer_bit) Gnsg Wch Wna Wle
  have Wev := d_weven N cW (dmx c 54 106 rfl rfl : Dm K (He.ga K "Writer") "even" "Writer.even" sm_Writer_even) Gnsg Wna
  have Wnum := d_wnum B N cW (dmx c 55 107 rfl rfl : Dm K (He.ga K "Writer") "number" "Writer.number" sm_Writer_number) Gwh Gsi Glo Wbit Wev
  have Wlet := d_wletters (ex := ex0) cW (dmx c 56 108 rfl rfl : Dm K (He.ga K "Writer") "letters" "Writer.letters" sm_Writer_letters) Glin
  have Rch := d_chance (P := P) (w := w) (mg := mg) (base := base) N cR.toCc (dmx c 57 109 rfl rfl : Dm K (He.ga K "Reader") "chance_of" "Coder.chance_of" sm_Coder_chance_of)
  have Rle := d_learn (P := P) (w := w) (mg := mg) (base := base) N cR.toCc (dmx c 58 110 rfl rfl : Dm K (He.ga K "Reader") "learn" "Coder.learn" sm_Coder_learn)
  have Rsa := d_sign_at (P := P) (w := w) (mg := mg) (base := base) B cR (dmx c 60 112 rfl rfl : Dm K (He.ga K "Reader") "sign_at" "Reader.sign_at" sm_Reader_sign_at)
  have Rca := fun (L : List Int) (t : Addr) => d_rcame (L := L) (t := t) N cR (dmx c 61 113 rfl rfl : Dm K (He.ga K "Reader") "came" "Reader.came" sm_Reader_came) Rsa
  have Rna := fun (L : List Int) (t : Addr) => d_narrowed N cR.toCc (JR_kept (K := K) (L := L) (t := t)) exR_no exR_len' (dmx c 59 111 rfl rfl : Dm K (He.ga K "Reader") "narrowed" "Coder.narrowed" sm_Coder_narrowed) (Rca L t)
  have Rby := fun (L : List Int) (t : Addr) => d_read_by B N cR (dmx c 62 114 rfl rfl : Dm K (He.ga K "Reader") "read_by" "Reader.read_by" sm_Reader_read_by) (Rna L t)
  have Rbit := fun (L : List Int) (t : Addr) => d_rbit cR (dmx c 63 115 rfl rfl : Dm K (He.ga K "Reader") "bit" "Reader.bit" sm_Reader_bit) Rch (Rby L t) Rle
  have Rev := fun (L : List Int) (t : Addr) => d_reven N cR (dmx c 64 116 rfl rfl : Dm K (He.ga K "Reader") "even" "Reader.even" sm_Reader_even) (Rby L t)
  have Rnum := fun (L : List Int) (t : Addr) => d_rnum B N cR (dmx c 65 117 rfl rfl : Dm K (He.ga K "Reader") "number" "Reader.number" sm_Reader_number) Gwh Gsi (Rbit L t) (Rev L t)
  have Cin := d_init (P := P) (w := w) (mg := mg) (base := base) N cR.toCc FCi
  have Rin := d_rinit B N cR FRi Rco (He.glo_ok X G (c.fact 49 (f := .glo "Coder") rfl)) Cin FCi.kp Rsa
  have Giv := d_is_vector B N (dfx X G c 5 5 rfl rfl : Df K mg "is_vector" s_is_vector) Gwh
  have Gir := d_is_rest B N (dfx X G c 6 6 rfl rfl : Df K mg "is_rest" s_is_rest) Gwh
  have Gki := d_kinds_for (P := P) (w := w) (mg := mg) (base := base) T (dfx X G c 4 4 rfl rfl : Df K mg "kinds_for" s_kinds_for)
  have Gpa := d_is_part (dfx X G c 7 7 rfl rfl : Df K mg "is_part" s_is_part) Gwh Giv Gir
  have Gic := d_is_choice B T (dfx X G c 8 8 rfl rfl : Df K mg "is_choice" s_is_choice) Gki Gpa
  have Gar := d_are B (dfx X G c 9 9 rfl rfl : Df K mg "are_choices" s_are_choices) Gic
  have Gfv := d_first (P := P) (w := w) (mg := mg) (base := base) B (dfx X G c 10 10 rfl rfl : Df K mg "first_vector" s_first_vector)
  have Gmi := d_middle (P := P) (w := w) (mg := mg) (base := base) B (dfx X G c 15 15 rfl rfl : Df K mg "middle" s_middle)
  have Ggu := d_guess B (dfx X G c 16 16 rfl rfl : Df K mg "guessed_vector" s_guessed_vector) Gmi
  have Glv := d_lvec (P := P) (w := w) (mg := mg) (base := base) B (dfx X G c 33 33 rfl rfl : Df K mg "_law_vector" s_law_vector)
  have Gwv := d_wvec B N (dfx X G c 18 18 rfl rfl : Df K mg "write_vector" s_write_vector) Wnum
  have Gwr := d_wrest B N T (dfx X G c 19 19 rfl rfl : Df K mg "write_rest" s_write_rest) Wbit Wev Wnum
  have Gwc := d_wch B (dfx X G c 20 20 rfl rfl : Df K mg "write_choice" s_write_choice) Gki Wnum Wbit Gwv Gwr
  have Glf := d_let B N (dfx X G c 25 25 rfl rfl : Df K mg "letters_of" s_letters_of) (He.glo_ok X G (c.fact 50 (f := .glo "Writer") rfl)) (He.mkr_ok (c.fact 118 (f := .mkr "Writer") rfl)) Win Gns Gwh Gar Ggu Gwc Gfv Wlet
  have Grv := fun (L : List Int) (t : Addr) => d_rvec N (dfx X G c 21 21 rfl rfl : Df K mg "read_vector" s_read_vector) (Rnum L t) Gvp
  have Grr := fun (L : List Int) (t : Addr) => d_rrest B N T (dfx X G c 22 22 rfl rfl : Df K mg "read_rest" s_read_rest) (Rbit L t) (Rev L t) (Rnum L t)
  have Grc := fun (L : List Int) (t : Addr) => d_rch B (dfx X G c 23 23 rfl rfl : Df K mg "read_choice" s_read_choice) Gki (Rnum L t) (Rbit L t) (Grv L t) (Grr L t)
  have Grs := d_rchs B (dfx X G c 26 26 rfl rfl : Df K mg "read_choices" s_read_choices) (He.glo_ok X G (c.fact 51 (f := .glo "Reader") rfl)) (He.mkr_ok (c.fact 119 (f := .mkr "Reader") rfl)) Rin Ggu Grc Gfv
  have Gun := d_unlike (P := P) (w := w) (mg := mg) (base := base) B (dfx X G c 27 27 rfl rfl : Df K mg "first_unlike" s_first_unlike)
  have Gbl := d_bl (P := P) (w := w) (mg := mg) (base := base) bl.ox noAt Rse (He.glo_ok X G (c.fact 52 (f := .glo "ShownError") rfl)) FBi
  have Gco := d_cof B (dfx X G c 28 28 rfl rfl : Df K mg "choices_of" s_choices_of) bl.ox (He.glo_ok X G (c.fact 53 (f := .glo "BadLetters") rfl)) bl.ini bl.ty Gbl Gns Glis Glet Grs Glf Gun
  have Lmo := d_more (P := P) (w := w) (mg := mg) (base := base) B (dfx X G c 30 30 rfl rfl : Df K mg "_law_more" s_law_more)
  have Lne := d_next (dfx X G c 31 31 rfl rfl : Df K mg "_law_next" s_law_next) Lmo
  have Lpi := d_pick B (dfx X G c 32 32 rfl rfl : Df K mg "_law_pick" s_law_pick) Lne
  have Lbe := d_begin (P := P) (w := w) (mg := mg) (base := base) B (dfx X G c 29 29 rfl rfl : Df K mg "_law_begin" s_law_begin)
  have Lco := d_coder (P := P) (w := w) (mg := mg) (base := base) B (dfx X G c 34 34 rfl rfl : Df K mg "_law_coder" s_law_coder)
  have Lsi := d_sign (P := P) (w := w) (mg := mg) (base := base) B (dfx X G c 35 35 rfl rfl : Df K mg "_law_sign" s_law_sign)
  have Lnu := d_lnum B (dfx X G c 37 37 rfl rfl : Df K mg "_law_number" s_law_number) Gpo Lsi
  have Lcb := d_counts (P := P) (w := w) (mg := mg) (base := base) (dfx X G c 38 38 rfl rfl : Df K mg "_law_counts_by" s_law_counts_by)
  have Ltv := d_tvec B (dfx X G c 39 39 rfl rfl : Df K mg "_law_told_vector" s_law_told_vector) Lnu
  have Ltr := d_trest B (dfx X G c 40 40 rfl rfl : Df K mg "_law_told_rest" s_law_told_rest) Lsi Lnu
  have Lto := d_told B (dfx X G c 41 41 rfl rfl : Df K mg "_law_told" s_law_told) Lsi Lnu Ltv Ltr
  have Lal := d_allt B (dfx X G c 42 42 rfl rfl : Df K mg "_law_all_told" s_law_all_told) Glv Lto Lcb
  have Lre := d_read (dfx X G c 44 44 rfl rfl : Df K mg "_law_read" s_law_read) Lco Lal
  have Lof := d_toldof (dfx X G c 43 43 rfl rfl : Df K mg "_law_told_of" s_law_told_of) bl.xf noAt (He.glo_ok X G (c.fact 53 (f := .glo "BadLetters") rfl)) (He.exm_ok (c.fact 120 (f := .exm "BadLetters" "BadLetters" true) rfl)) Gco
  have Lro := d_rows B (dfx X G c 45 45 rfl rfl : Df K mg "_law_rows_of" s_law_rows_of) Lne Lpi
  have Lth := d_theirs (dfx X G c 46 46 rfl rfl : Df K mg "_law_is_theirs" s_law_is_theirs) Lof Lre
  have Lri := d_right B (dfx X G c 47 47 rfl rfl : Df K mg "_law_right" s_law_right) Lof
  exact d_law B F Lbe Lne Lro Lre Glf Lth Lri
end
theorem facts {P : Program} {w : World} {K : PySem.W.Frag} {h : Heap} {mg : Str → Option Value} {f : Addr} (X : K.In h) (G : h.Ns mainGlobals mg) (hfa : mg "law" = some (.ref f)) (c : HSays w K) :
    ∃ fd : FuncData, (∀ (s : Shared) (v : Value), BindsTo s fd ⟨[v], []⟩ [("_law_script", v)]) ∧ ∀ base : Heap, K.In base → base.Ns mainGlobals mg → FnOk P w K mg base CX0 13 f fd ["_law_script"] (spLaw K) := by
  have cd := c.t.d
  obtain ⟨h1, h2⟩ := Bool.and_eq_true_iff.mp c.more
  obtain ⟨h3, h4⟩ := Bool.and_eq_true_iff.mp h2
  obtain ⟨h5, h6⟩ := Bool.and_eq_true_iff.mp h3
  have T : Tb K w mg := tb_of h4 (He.glo_ok X G (cd.fact 54 (f := .glo "BESIDE") rfl)) (He.glo_ok X G (cd.fact 55 (f := .glo "NO_REST") rfl)) (He.glo_ok X G (cd.fact 56 (f := .glo "ORDER") rfl)) (He.glo_ok X G (cd.fact 57 (f := .glo "FORMS") rfl)) (c.t.tab 0 (t := (fun K => He.ga K "FORMS", ["flat", "left", "above", "slope", "as", "moved", "both"])) rfl)
  obtain ⟨fd, F⟩ := (cd.def_ 48 (d := dd "law" s_law) rfl : ∃ fd, FnP K "law" "law" s_law (He.ga K "law") fd)
  have e := hfa.symm.trans (He.glo_ok X G (cd.fact 48 (f := .glo "law") rfl))
  cases e
  have b := FunD.bindsA (ps := ["_law_script"]) F fun _ _ _ _ _ _ us hl => match us, hl with | [_], _ => rfl
  exact ⟨fd, fun s v => b s [v] rfl, fun base _ _ => all_kept X G cd T (blB_ok h1) (crB_ok h5) (crB_ok h6) F⟩
end K4
open PySem PySem.W PySem.Calls PyProof.Rows
theorem PySem.Challenge.cw_sameshown_k04_whole_one_row_of_letters_f_holds : PySem.Challenge.rw_sameshown_k04_whole_one_row_of_letters_f.Holds := by
  w_on; o_law
  refine HandSHeadRun.head_any (r := OpenLaw.row PySem.Challenge.rw_sameshown_k04_whole_one_row_of_letters_f) (q := view (OpenLaw.row PySem.Challenge.rw_sameshown_k04_whole_one_row_of_letters_f).prog [81]) (H := K4.hHk) (ob := K4.hOb) (M := 20000) (loose := K4.hNm) (d := HandSHeadRun.topDef (OpenLaw.row PySem.Challenge.rw_sameshown_k04_whole_one_row_of_letters_f).prog 81) (kwd := []) K4.hOb_eq
    (by kernel_rfl) (fun s => by kernel_rfl) K4.hRun (by kernel_rfl) (by kernel_rfl) (by kernel_rfl) (by rfl) (by first | assumption | decide +kernel) (by decide +kernel) ⟨rfl, rfl, rfl, rfl, rfl, by decide +kernel⟩ ?hw ?hc
  case hw => w_witness2
  case hc =>
    refine L2.walk_ofE (l := PySem.Challenge.rw_sameshown_k04_whole_one_row_of_letters_f) (n := 63) (k := 13) (x := "_law_script") (CX := L2.CX0) rfl (by decide) (by kernel_rfl) ⟨rfl, by decide, by decide⟩ ?F (fun _ _ _ _ z => z)
    intro w mg fa h Y G hmg0
    obtain ⟨K, KX, c⟩ := Y
    have hmg : mg ("law" : PySem.Str) = some (.ref fa) := by
      have e : (HandSHeadRun.topDef (OpenLaw.row PySem.Challenge.rw_sameshown_k04_whole_one_row_of_letters_f).prog 81).name = ("law" : PySem.Str) := by kernel_rfl
      rw [← e]
      exact hmg0
    obtain ⟨fd, hb, hF⟩ := K4.facts (P := (PySem.Challenge.rw_sameshown_k04_whole_one_row_of_letters_f).prog) (w := w) KX G hmg c
    exact ⟨K, fd, K4.spLaw K, KX, hb, fun H a ns hl _ hS => ⟨a, ns, rfl, hS, hl, fun _ => rfl⟩, hF⟩
