import PyProof.Rows.All
import Wide.All
import OpenK.AllK
import Wide.FinOn
import KE.KStateDown
import KE.KOpsOwn
import Lean
import HandS.ForMost
import HandS.Exc
import HandS.ExcOwn
import HandS.WordsExc
import HandS.Property
import HandS.Defaults
import HandS.MakeKwOnly
import HandS.IsInst
import HandS.Star
import HandS.GenList
import HandS.Head0
import HandS.Head1
import HandS.Head2
import HandS.HeadEnd
import HandS.HeadHook1
import HandS.HeadHook2
import HandS.Codes
import PySem.Challenge.RW_ringindexes_k61_whole_several_readers
set_option Elab.async false
set_option linter.all false
set_option maxRecDepth 100000
set_option maxHeartbeats 0
/-! The text by places, the data, the rules that the layer lacks. -/
namespace K61
open PySem L2
def tx (i : Nat) : Stmt := PySem.Challenge.pw_ringindexes_k61_whole_several_readers.main.body.getD i (.Pass ⟨0, 0, 0, 0⟩)
abbrev tWhole : Stmt := tx 13
abbrev tBetween : Stmt := tx 14
abbrev tSize : Stmt := tx 15
abbrev tModAt : Stmt := tx 19
abbrev tModOf : Stmt := tx 20
abbrev tHasOut : Stmt := tx 21
abbrev tLogMod : Stmt := tx 24
abbrev tLogInit : Stmt := inClass (tx 25) 0
abbrev tLogPut : Stmt := inClass (tx 25) 1
abbrev tLogIadd : Stmt := inClass (tx 25) 3
abbrev tLogGet : Stmt := inClass (tx 25) 4
abbrev tRdInit : Stmt := inClass (tx 26) 0
abbrev tRdLag : Stmt := inClass (tx 26) 1
abbrev tRdBel : Stmt := inClass (tx 26) 2
abbrev tRdCall : Stmt := inClass (tx 26) 3
abbrev tRdRest : Stmt := inClass (tx 26) 4
abbrev tFmInit : Stmt := inClass (tx 28) 0
abbrev tScInit : Stmt := inClass (tx 38) 0
abbrev tScWrap : Stmt := inClass (tx 38) 1
abbrev tScSlot : Stmt := inClass (tx 38) 3
abbrev tScWhen : Stmt := inClass (tx 38) 9
abbrev tWord : Stmt := tx 40
abbrev tPartForm : Stmt := tx 41
abbrev tIsWrap : Stmt := tx 42
abbrev tIsSlot : Stmt := tx 43
abbrev tFullRule : Stmt := tx 44
abbrev tMixed : Stmt := tx 50
abbrev tPool : Stmt := tx 51
abbrev tDraw : Stmt := tx 52
abbrev tWide : Stmt := tx 53
abbrev tMade : Stmt := tx 54
abbrev tSetting : Stmt := tx 55
abbrev tPower : Stmt := tx 56
abbrev tDue : Stmt := tx 57
abbrev tWalk : Stmt := tx 58
abbrev tRows : Stmt := tx 59
abbrev tAmount : Stmt := tx 60
abbrev tLaw : Stmt := tx 61

/-! ### a def as its callers see it -/
/-- the module's name x is a def that keeps its promise, its parameters are written -/
structure Def1 (P : Program) (w : World) (K : PySem.W.Frag) (mg : Str → Option Value) (base : Heap) (k : Nat) (x : Str) (ps : List Str) (sp : Sp) : Prop where
  ex : ∃ (f : Addr) (fd : FuncData), FnOk P w K mg base CX0 k f fd ps sp ∧ mg x = some (.ref f) ∧ PySem.W.keepIn K (.ref f) = true ∧ Binds K fd ps []
/-- the class at C has the method m that keeps its promise -/
structure Mth1 (P : Program) (w : World) (K : PySem.W.Frag) (mg : Str → Option Value) (base : Heap) (k : Nat) (C : Addr) (m : Str) (ps : List Str) (sp : Sp) : Prop where
  ex : ∃ (f : Addr) (fd : FuncData), FnOk P w K mg base CX0 k f fd ps sp ∧ Meth K C m f ∧ Binds K fd ps [] ∧ PySem.W.fnIn K f = true
/-- the class at C has the property m whose getter keeps its promise -/
structure Prp1 (P : Program) (w : World) (K : PySem.W.Frag) (mg : Str → Option Value) (base : Heap) (k : Nat) (C : Addr) (m : Str) (sp : Sp) : Prop where
  ex : ∃ (p g : Addr) (fd : FuncData), FnOk P w K mg base CX0 k g fd ["self"] sp ∧ PropOf K C m p g ∧ Binds K fd ["self"] []

section
variable {X : Cx} {k : Nat} {x m : Str} {ps : List Str} {sp : Sp} {p pos apos : Pos} {e o : Expr} {es : List Expr} {t : TA} {ta : TE} {C : Addr}
theorem call1 (D : Def1 X.prog X.w X.K X.mg X.base k x ps sp) (hr : Room k X.A) (ha : PA X (e :: es) t) (hg : Gl X x := by rfl)
    (hd : (x == ("__debug__" : Str)) = false := by decide) (he : starEach (e :: es) X.env = (false, eval e X.env) :: starEach es X.env := by rfl) (hp : (backTo pos (starEach es X.env)).any (·.1) = false := by rfl) :
    PE X (.Call (.Name x p) (e :: es) [] pos) (tCall sp [] E0 t) := by
  obtain ⟨f, fd, F, hm, hk, hb⟩ := D.ex
  exact pe_call F hr hg hm hk hb .nil pass0 ha hd he hp
theorem prop1 (he : PE X e ta) (c : Cls X.K C) (D : Prp1 X.prog X.w X.K X.mg X.base k C m sp) (hr : Room (k + 1) X.A) (hab : attributeBase e m X.env (eval e X.env) = eval e X.env := by rfl) :
    PE X (.Attribute e m pos) (tProp C sp [] E0 ta) := by
  obtain ⟨q, g, fd, F, hp, hb⟩ := D.ex
  exact pe_prop he c hp F hr hb .nil pass0 hab
end

/-! ### += of an own class -/
def rIadd (C : Addr) (sp : Sp) : TIp := fun x y H Q => ∃ a dx fs, x = .ref a ∧ H a = some (.ins C dx fs) ∧ sp [.ref a, y] H Q E0
theorem ip_own {X : Cx} {k : Nat} {C : Addr} {sp : Sp} (D : Mth1 X.prog X.w X.K X.mg X.base k C "__iadd__" ["self", "other"] sp) (hc : PySem.W.selfFirst X.K C = true) (hr : Room k X.A)
    (hq : ∀ vs H Q, sp vs H Q E0 → sp vs H (fun v H' => (∃ a, v = .ref a) ∧ Q v H') E0) : PIp X .Add (rIadd C sp) := by
  intro pins s σ H x y v u Q I rx ry h
  obtain ⟨a, dx, fs, rfl, ea, hs⟩ := h
  cases rx
  obtain ⟨f, fd, F, hm, hb, _⟩ := D.ex
  obtain ⟨m, hF⟩ := I.fr
  obtain ⟨mA, O, _, _, _, _⟩ := ins_get I.hok ea
  obtain ⟨od, J, _⟩ := O.look
  refine PySem.W.ksp_inplace hF I.mod.kin J hc hm.at_ hm.fn ?_
  refine thn (run_fn (us := [.ref a, u]) (vs := [.ref a, y]) F hr hb .nil pass0 I (.cons rfl (.cons ry .nil)) (hq _ _ _ hs)) fun r s' hz => ?_
  obtain ⟨v2, H2, I2, rv, ⟨b, eb⟩, q⟩ := hz
  subst eb
  cases rv
  exact ⟨.ref b, H2, I2, rfl, q⟩

/-! ### o[i] of an own class, o() of an own class -/
def tIxOwn (C : Addr) (sp : Sp) (ta tb : TE) : TE := fun σ H Q => ta σ H fun x H1 => tb σ H1 fun y H2 => ∃ a dx fs, x = .ref a ∧ H2 a = some (.ins C dx fs) ∧ sp [.ref a, y] H2 Q E0
section
variable {X : Cx} {k : Nat} {C : Addr} {sp : Sp} {a b fe : Expr} {ta tb tf : TE} {pos : Pos}
theorem pe_ixOwn (ha : PE X a ta) (hb : PE X b tb) (D : Mth1 X.prog X.w X.K X.mg X.base k C "__getitem__" ["self", "at"] sp) (hr : Room (k + 1) X.A)
    (hsl : ∀ x i, subscripted b true (.ref x) i = runValue (.builtin "lifetime.subscript" ⟨[.ref x, i], []⟩) := by intro _ _; with_unfolding_all rfl) : PE X (.Subscript a b pos) (tIxOwn C sp ta tb) := by
  refine ⟨fun pins s σ H Q I h => ?_⟩
  refine PyProof.Rows.Subscript_ (binT ha hb I h fun v u s2 x y H2 I2 rx ry q => ?_)
  obtain ⟨a', dx, fs, rfl, ea, hs⟩ := q
  cases rx
  obtain ⟨f, fd, F, hm, hbn, hfi⟩ := D.ex
  obtain ⟨m, hF⟩ := I2.fr
  obtain ⟨mA, O, _, _, _, _⟩ := ins_get I2.hok ea
  obtain ⟨od, J, _⟩ := O.look
  refine PySem.W.sub_K hF I2.mod.kin J hm.at_ hfi hm.fn (wpAny_call ?_) (hsl _ _)
  have hl : ([Value.ref a', u] ++ ([] : List Value)).length = ["self", "at"].length := rfl
  refine codeAny_mono (F.run X.A.in1 X.stack s2 H2 ⟨[.ref a', u], []⟩ [.ref a', u] [.ref a', y] Q E0 hr.in1 I2.env0.in1 (hbn _ [.ref a', u] I2.kIn hl) (.cons rfl (.cons ry .nil)) hs) fun r s' hq => ?_
  cases r with
  | error er => exact False.elim hq
  | ok fl =>
    cases fl with
    | ret u2 => exact I2.after hq
    | next => exact False.elim hq
    | brk => exact False.elim hq
    | cont => exact False.elim hq
def tCallOwn (C : Addr) (sp : Sp) (tf : TE) : TE := fun σ H Q => tf σ H fun y H1 => ∃ a dx fs, y = .ref a ∧ H1 a = some (.ins C dx fs) ∧ sp [.ref a] H1 Q E0
theorem pe_callOwn (hf : PE X fe tf) (D : Mth1 X.prog X.w X.K X.mg X.base k C "__call__" ["self"] sp) (hr : Room k X.A)
    (ht : eval (.Call fe [] [] pos) X.env = (do callWith pos (← eval fe X.env) [] (backTo pos (starEach [] X.env)) (backToKw pos (keywordEach [] X.env))) := by rfl) : PE X (.Call fe [] [] pos) (tCallOwn C sp tf) := by
  refine ⟨fun pins s σ H Q I h => ?_⟩
  refine PyProof.Rows.Call_ (thn (hf.run pins s σ H _ I h) fun u s1 ⟨y, H1, I1, ry, a', dx, fs, ey, ea, hs⟩ => ?_) ht
  subst ey
  obtain rfl : u = Value.ref a' := ry
  obtain ⟨f, fd, F, hm, hbn, hfi⟩ := D.ex
  obtain ⟨mA, O, _, _, _, _⟩ := ins_get I1.hok ea
  obtain ⟨od, J, _⟩ := O.look
  refine PySem.W.kco_callWith0 I1.kIn J rfl hm.at_ (wpAny_call (PySem.W.kco_code I1.kIn J rfl hm.at_ hm.fn hfi ?_))
  have hl : ([Value.ref a'] ++ ([] : List Value)).length = ["self"].length := rfl
  refine codeAny_mono (F.run X.A X.stack s1 H1 ⟨[.ref a'], []⟩ [.ref a'] [.ref a'] Q E0 hr I1.env0 (hbn _ [.ref a'] I1.kIn hl) (.cons rfl .nil) hs) fun r s' hq => ?_
  cases r with
  | error er => exact False.elim hq
  | ok fl =>
    cases fl with
    | ret u2 => exact I1.after hq
    | next => exact False.elim hq
    | brk => exact False.elim hq
    | cont => exact False.elim hq
end
end K61
/-! The mathematics: what a read gives, in plain Lean. -/
namespace K61
/-- how much is told as lost at a belief b -/
def lostOf (n b : Int) : Int := if b > n then b - n else 0
/-- what a reader whose counter stands at q gets from a log of t values, size n, modulus m -/
def due (n m t q : Int) : Option (Int × Int) :=
  if (t - q) % m = 0 then none else some (lostOf n ((t - q) % m), t - (t - 1 - (q + lostOf n ((t - q) % m))) % n)
/-- up to k reads: what they give, where the counter stands behind -/
def reads (n m t : Int) : Nat → Int → List (Int × Int) × Int
  | 0, q => ([], q)
  | k + 1, q => match due n m t q with
    | none => ([], q)
    | some x => ((x :: (reads n m t k (q + x.1 + 1)).1), (reads n m t k (q + x.1 + 1)).2)
/-- a log's numbers and a reader's counter -/
structure Good (n m t q : Int) : Prop where
  n0 : 0 < n
  m0 : 0 < m
  nm : m % n = 0
  q0 : 0 ≤ q
  qt : q ≤ t
theorem lostOf_nn {n b : Int} : 0 ≤ lostOf n b := by
  unfold lostOf; split <;> omega
theorem lostOf_lt {n b : Int} (hn : 0 < n) (hb : 0 < b) : lostOf n b + 1 ≤ b := by
  unfold lostOf; split <;> omega
theorem bel_le {n m t q : Int} (g : Good n m t q) : (t - q) % m ≤ t - q := by
  have h1 : 0 ≤ t - q := by have := g.qt; omega
  have h2 := Int.emod_add_mul_ediv (t - q) m
  have h3 : 0 ≤ m * ((t - q) / m) := Int.mul_nonneg (Int.le_of_lt g.m0) (Int.ediv_nonneg h1 (Int.le_of_lt g.m0))
  omega
theorem bel_nn {n m t q : Int} (g : Good n m t q) : 0 ≤ (t - q) % m := Int.emod_nonneg _ (Int.ne_of_gt g.m0)
/-- the counter behind a read -/
theorem next_good {n m t q : Int} (g : Good n m t q) (h : (t - q) % m ≠ 0) : Good n m t (q + lostOf n ((t - q) % m) + 1) := by
  have h1 := bel_le g
  have h2 := bel_nn g
  have h3 : lostOf n ((t - q) % m) + 1 ≤ (t - q) % m := lostOf_lt g.n0 (by omega)
  have h4 : 0 ≤ lostOf n ((t - q) % m) := lostOf_nn
  have h5 := g.q0
  exact ⟨g.n0, g.m0, g.nm, by omega, by omega⟩
/-- a slot by the counter modulo the modulus is that of the counter -/
theorem mod_mod {n m c : Int} (h : m % n = 0) : (c % m) % n = c % n := by
  have d : n ∣ m := Int.dvd_of_emod_eq_zero h
  exact Int.emod_emod_of_dvd c d
theorem sub_mod {n a c : Int} : (a - c % n) % n = (a - c) % n := by
  rw [Int.sub_emod a (c % n) n, Int.emod_emod_of_dvd c (Int.dvd_refl n), ← Int.sub_emod]
/-- what the program's read gives -/
theorem read_val {n m t q : Int} (g : Good n m t q) (h : (t - q) % m ≠ 0) :
    (if t - (t - 1 - (q + lostOf n ((t - q) % m)) % m % n) % n > 0 then t - (t - 1 - (q + lostOf n ((t - q) % m)) % m % n) % n else 0) = t - (t - 1 - (q + lostOf n ((t - q) % m))) % n := by
  have g2 := next_good g h
  rw [mod_mod g.nm, sub_mod]
  generalize hp : q + lostOf n ((t - q) % m) = p at g2 ⊢
  have hq := g2.qt
  have hp0 : 0 ≤ p := by have h4 : 0 ≤ lostOf n ((t - q) % m) := lostOf_nn; have h5 := g.q0; omega
  have h1 : 0 ≤ t - 1 - p := by omega
  have h2 := Int.emod_add_mul_ediv (t - 1 - p) n
  have h3 : 0 ≤ n * ((t - 1 - p) / n) := Int.mul_nonneg (Int.le_of_lt g.n0) (Int.ediv_nonneg h1 (Int.le_of_lt g.n0))
  rw [if_pos (by omega)]
theorem slot_lo {n m c : Int} (hn : 0 < n) : 0 ≤ c % m % n := Int.emod_nonneg _ (Int.ne_of_gt hn)
theorem slot_hi {n m c : Int} (hn : 0 < n) : c % m % n ≤ n - 1 := by
  have := Int.emod_lt_of_pos (c % m) hn
  omega
theorem due_none {n m t q : Int} (h : (t - q) % m = 0) : due n m t q = none := by unfold due; rw [if_pos h]
theorem due_some {n m t q : Int} (h : ¬ (t - q) % m = 0) : due n m t q = some (lostOf n ((t - q) % m), t - (t - 1 - (q + lostOf n ((t - q) % m))) % n) := by unfold due; rw [if_neg h]
theorem due_good {n m t q : Int} (g : Good n m t q) {x : Int × Int} (h : due n m t q = some x) : Good n m t (q + x.1 + 1) := by
  by_cases h0 : (t - q) % m = 0
  · rw [due_none h0] at h; cases h
  · rw [due_some h0] at h; cases h
    exact next_good g h0
theorem reads_good {n m t : Int} : ∀ (k : Nat) {q : Int}, Good n m t q → Good n m t (reads n m t k q).2
  | 0, _, g => g
  | k + 1, q, g => by
    unfold reads
    cases h : due n m t q with
    | none => exact g
    | some x => exact reads_good k (due_good g h)
theorem reads_len {n m t : Int} : ∀ (k : Nat) (q : Int), (reads n m t k q).1.length ≤ k
  | 0, _ => Nat.le_refl _
  | k + 1, q => by
    unfold reads
    cases h : due n m t q with
    | none => exact Nat.zero_le _
    | some x => exact Nat.succ_le_succ (reads_len k _)
/-- more values: still good -/
theorem Good.more {n m t q j : Int} (g : Good n m t q) (h : 0 ≤ j) : Good n m (t + j) q := ⟨g.n0, g.m0, g.nm, g.q0, by have := g.qt; omega⟩
end K61
/-! The program's defs, each by its promise. -/
namespace K61
open PySem L2
/-! ### the data -/
def fmF (a b : Int) : List (Str × V) := [("slope", V.int a), ("base", V.int b)]
def lgF (m n t : Int) : List (Str × V) := [("modulus", V.int m), ("size", V.int n), ("laid", V.int t)]
def rdF (b : Addr) (q : Int) : List (Str × V) := [("source", V.ref b), ("passed", V.int q)]
def scF (w sl em fu wh : V) : List (Str × V) := [("own_wrap", w), ("own_slot", sl), ("own_empty", em), ("own_full", fu), ("own_when", wh)]
theorem fm_slope (a b : Int) : (fmF a b).lookup ("slope" : Str) = some (V.int a) := rfl
theorem fm_base (a b : Int) : (fmF a b).lookup ("base" : Str) = some (V.int b) := rfl
theorem lg_mod (m n t : Int) : (lgF m n t).lookup ("modulus" : Str) = some (V.int m) := rfl
theorem lg_size (m n t : Int) : (lgF m n t).lookup ("size" : Str) = some (V.int n) := rfl
theorem lg_laid (m n t : Int) : (lgF m n t).lookup ("laid" : Str) = some (V.int t) := rfl
theorem rd_src (b : Addr) (q : Int) : (rdF b q).lookup ("source" : Str) = some (V.ref b) := rfl
theorem rd_pas (b : Addr) (q : Int) : (rdF b q).lookup ("passed" : Str) = some (V.int q) := rfl
theorem lg_put (m n t u : Int) : putF ("laid" : Str) (V.int u) (lgF m n t) = lgF m n u := rfl
theorem rd_put (b : Addr) (q u : Int) : putF ("passed" : Str) (V.int u) (rdF b q) = rdF b u := rfl
/-- what the walk asks of the text as the top has left it -/
structure Txt (K : PySem.W.Frag) (mg : Str → Option Value) (CL CR CF CS : Addr) : Prop where
  isi : mg "isinstance" = none
  int : mg "int" = none
  bool : mg "bool" = none
  str : mg "str" = none
  tuple : mg "tuple" = none
  len : mg "len" = none
  max : mg "max" = none
  range : mg "range" = none
  list : mg "list" = none
  gL : mg "Log" = some (.ref CL)
  gR : mg "Reader" = some (.ref CR)
  gF : mg "Form" = some (.ref CF)
  gS : mg "Scheme" = some (.ref CS)
  largest : ∃ t, mg "LARGEST" = some (.int (10 ^ 30) t)
  farthest : ∃ t, mg "FARTHEST" = some (.int (10 ^ 40) t)
  widest : ∃ t, mg "WIDEST" = some (.int 100 t)
  cL : Cls K CL
  cR : Cls K CR
  cF : Cls K CF
  cS : Cls K CS
  lM : NoAttr K CL "modulus"
  lS : NoAttr K CL "size"
  lL : NoAttr K CL "laid"
  rS : NoAttr K CR "source"
  rP : NoAttr K CR "passed"
  fS : NoAttr K CF "slope"
  fB : NoAttr K CF "base"
  sW : NoAttr K CS "own_wrap"
  sS : NoAttr K CS "own_slot"
  sE : NoAttr K CS "own_empty"
  sF : NoAttr K CS "own_full"
  sH : NoAttr K CS "own_when"
  fc : PySem.W.findIn K (.ref CF) "__class__" = some (some (.builtin "object.__class__"))
  fg : PySem.W.specialIn K (.builtin "object.__class__") "__get__" = some (some (.builtin "getset_descriptor.__get__"))
  ft : PySem.W.takesIn K (.builtin "object.__class__") = some true
  fm : PySem.W.mroIn K CF (.type "object") = some true
  fi : PySem.W.kitOne K (.ref CF) (.type "int") = some false
  ff : PySem.W.kitOne K (.ref CF) (.ref CF) = some true
  selfL : PySem.W.selfFirst K CL = true
theorem bI : bootBuiltins "isinstance" = some (.builtin "isinstance") := by decide +kernel
theorem bInt : bootBuiltins "int" = some (.type "int") := by decide +kernel
theorem bBool : bootBuiltins "bool" = some (.type "bool") := by decide +kernel
theorem bStr : bootBuiltins "str" = some (.type "str") := by decide +kernel
theorem bTup : bootBuiltins "tuple" = some (.type "tuple") := by decide +kernel
theorem bMax : bootBuiltins "max" = some (.builtin "max") := by decide +kernel
theorem bLen : bootBuiltins "len" = some (.builtin "len") := by decide +kernel

theorem asV {Q : VK} {v v' : V} {H : Hp} (k : Q v H) (e : v = v') : Q v' H := e ▸ k

/-! ### promises -/
/-- is it an integer: an int, or a form -/
def WhV (CF : Addr) (H : Hp) (v : V) (b : Bool) : Prop := (∃ i, v = .int i ∧ b = true) ∨ (∃ a dx fs, v = .ref a ∧ H a = some (.ins CF dx fs) ∧ b = false)
def spWhole (CF : Addr) : Sp := fun vs H Q _ => ∃ v b, vs = [v] ∧ WhV CF H v b ∧ Q (.bl b) H
def BtV (CF : Addr) (H : Hp) (v : V) (lo hi : Int) (b : Bool) : Prop := (∃ i, v = .int i ∧ lo ≤ i ∧ i ≤ hi ∧ b = true) ∨ (∃ a dx fs, v = .ref a ∧ H a = some (.ins CF dx fs) ∧ b = false)
def spBetween (CF : Addr) : Sp := fun vs H Q _ => ∃ v lo hi b, vs = [v, .int lo, .int hi] ∧ BtV CF H v lo hi b ∧ Q (.bl b) H
def spSize : Sp := fun vs H Q _ => ∃ i, vs = [.int i] ∧ 1 ≤ i ∧ i ≤ 10 ^ 30 ∧ Q (.bl true) H
/-- a wrap v has the modulus m at the size n -/
def WrV (CF : Addr) (H : Hp) (v : V) (n m : Int) : Prop := (∃ w, v = .int w ∧ 0 ≤ w ∧ w ≤ 100 ∧ m = 2 ^ w.toNat) ∨
  (∃ a dx p q, v = .ref a ∧ H a = some (.ins CF dx (fmF p q)) ∧ 0 ≤ p ∧ p ≤ 4 ∧ m = p * n + q)
def spModAt (CF : Addr) : Sp := fun vs H Q _ => ∃ v n m, vs = [v, .int n] ∧ WrV CF H v n m ∧ Q (.int m) H
def spModOf (CF CS : Addr) : Sp := fun vs H Q _ => ∃ a dx wv sl em fu wh n m, vs = [.ref a, .int n] ∧ H a = some (.ins CS dx (scF wv sl em fu wh)) ∧ 1 ≤ n ∧ n ≤ 10 ^ 30 ∧ WrV CF H wv n m ∧ 1 ≤ m ∧ Q (.int m) H
def spHasOut : Sp := fun vs H Q _ => ∃ (r : Str) (n m : Int), vs = [.str r, .int n, .int m] ∧ (r = "off" → m ≤ 2 * n) ∧ Q (.bl false) H
/-- a scheme of a log, of the modulus m at the size n -/
def LogSch (CF CS : Addr) (H : Hp) (a : Addr) (n m : Int) : Prop := ∃ (dx : Addr) (wv : V) (sl : Str) (em fu : V), H a = some (.ins CS dx (scF wv (.str sl) em fu (.str "over"))) ∧ 1 ≤ n ∧ n ≤ 10 ^ 30 ∧ WrV CF H wv n m ∧ 1 ≤ m ∧ m % n = 0 ∧ (sl = "off" → m ≤ 2 * n)
def spLogMod (CF CS : Addr) : Sp := fun vs H Q _ => ∃ a n m, vs = [.ref a, .int n] ∧ LogSch CF CS H a n m ∧ Q (.int m) H
def spLogInit (CF CS CL : Addr) : Sp := fun vs H Q _ => ∃ x dx a n m, vs = [.ref x, .ref a, .int n] ∧ H x = some (.ins CL dx []) ∧ LogSch CF CS H a n m ∧ Q .non (upd H x (.ins CL dx (lgF m n 0)))
def spIadd (CL : Addr) : Sp := fun vs H Q _ => ∃ x dx m n t j, vs = [.ref x, .int j] ∧ H x = some (.ins CL dx (lgF m n t)) ∧ 0 ≤ j ∧ j ≤ 10 ^ 40 ∧ Q (.ref x) (upd H x (.ins CL dx (lgF m n (t + j))))
def spGet (CL : Addr) : Sp := fun vs H Q _ => ∃ x dx m n t i, vs = [.ref x, .int i] ∧ H x = some (.ins CL dx (lgF m n t)) ∧ 0 < n ∧ 0 ≤ i ∧ i ≤ n - 1 ∧ Q (.int (if t - (t - 1 - i) % n > 0 then t - (t - 1 - i) % n else 0)) H
def spRdInit (CL CR : Addr) : Sp := fun vs H Q _ => ∃ x dx b db m n t k, vs = [.ref x, .ref b, .int k] ∧ H x = some (.ins CR dx []) ∧ H b = some (.ins CL db (lgF m n t)) ∧ 0 ≤ k ∧ k ≤ t ∧ Q .non (upd H x (.ins CR dx (rdF b (t - k))))
def spLag (CL CR : Addr) : Sp := fun vs H Q _ => ∃ x dx b db m n t q, vs = [.ref x] ∧ H x = some (.ins CR dx (rdF b q)) ∧ H b = some (.ins CL db (lgF m n t)) ∧ Q (.int (t - q)) H
def spBel (CL CR : Addr) : Sp := fun vs H Q _ => ∃ x dx b db m n t q, vs = [.ref x] ∧ H x = some (.ins CR dx (rdF b q)) ∧ H b = some (.ins CL db (lgF m n t)) ∧ 0 < m ∧ Q (.int ((t - q) % m)) H
def spCall (CL CR : Addr) : Sp := fun vs H Q _ => ∃ x dx b db m n t q, vs = [.ref x] ∧ H x = some (.ins CR dx (rdF b q)) ∧ H b = some (.ins CL db (lgF m n t)) ∧ Good n m t q ∧
  (due n m t q = none → Q .non H) ∧ (∀ l v, due n m t q = some (l, v) → ∀ p, (upd H x (.ins CR dx (rdF b (q + l + 1)))) p = none → Q (.ref p) (upd (upd H x (.ins CR dx (rdF b (q + l + 1)))) p (.tup [.int l, .int v])))
def spFmInit (CF : Addr) : Sp := fun vs H Q _ => ∃ x dx p q, vs = [.ref x, .int p, .int q] ∧ H x = some (.ins CF dx []) ∧ Q .non (upd H x (.ins CF dx (fmF p q)))
section
variable {P : Program} {w : World} {K : PySem.W.Frag} {mg : Str → Option Value} {base : Heap} {f CL CR CF CS : Addr} {fd : FuncData}
theorem scWhole : FnScope ["thing"] ["thing"] (defScope tWhole) := ⟨rfl, rfl, rfl, by decide +kernel, rfl, by decide +kernel, by decide +kernel⟩
theorem ok_whole (F : Fun K "is_whole" "is_whole" tWhole f fd) (T : Txt K mg CL CR CF CS) : FnOk P w K mg base CX0 1 f fd ["thing"] (spWhole CF) := by
  refine F.ok scWhole (fun vs H Q E h => ?_) (fun cdv A outer s H vs Q E hr h => ?_)
  · obtain ⟨v, b, rfl, _⟩ := h
    rfl
  · obtain ⟨v, b, rfl, hv, k⟩ := h
    refine ⟨_, pss_one (ps_ret (pe_and (pe_callB call_isi (by rfl) T.isi bI (pa_cons (pv 0) (pa_cons (pe_bltn (v := .ty "int") (by rfl) T.int bInt rfl) pa_nil)))
      (pe_one (pe_not (pe_callB call_isi (by rfl) T.isi bI (pa_cons (pv 0) (pa_cons (pe_bltn (v := .ty "bool") (by rfl) T.bool bBool rfl) pa_nil))))))), ?_⟩
    rcases hv with ⟨i, rfl, rfl⟩ | ⟨a, dx, fs, rfl, ea, rfl⟩
    · refine ⟨_, rfl, _, _, _, _, _, rfl, .ty _, .base (.int _), kit_ty (by decide +kernel), _, rfl, iteT ?_⟩
      exact ⟨_, rfl, _, _, _, _, false, rfl, .ty _, .base (.int _), kit_ty (by decide +kernel), _, rfl, k⟩
    · exact ⟨_, rfl, _, _, _, _, _, rfl, .ty _, .base (.ins ea T.cF T.fc T.fg T.ft T.fm), T.fi, _, rfl, iteF k⟩
theorem scBetween : FnScope ["thing", "low", "high"] ["thing", "low", "high"] (defScope tBetween) := ⟨rfl, rfl, rfl, by decide +kernel, rfl, by decide +kernel, by decide +kernel⟩
theorem ok_between (F : Fun K "is_between" "is_between" tBetween f fd) (D : Def1 P w K mg base 1 "is_whole" ["thing"] (spWhole CF)) : FnOk P w K mg base CX0 2 f fd ["thing", "low", "high"] (spBetween CF) := by
  refine F.ok scBetween (fun vs H Q E h => ?_) (fun cdv A outer s H vs Q E hr h => ?_)
  · obtain ⟨v, lo, hi, b, rfl, _⟩ := h
    rfl
  · obtain ⟨v, lo, hi, b, rfl, hv, k⟩ := h
    refine ⟨_, pss_one (ps_ret (pe_and (call1 D hr (pa_cons (pv 0) pa_nil)) (pe_one (pe_chain op_le op_le (pv 1) (pv 0) (pv 2))))), ?_⟩
    rcases hv with ⟨i, rfl, h1, h2, rfl⟩ | ⟨a, dx, fs, rfl, ea, rfl⟩
    · refine ⟨_, rfl, _, true, rfl, .inl ⟨_, rfl, rfl⟩, _, rfl, iteT ?_⟩
      refine ⟨_, rfl, _, rfl, _, _, rfl, rfl, _, rfl, ?_⟩
      rw [decide_eq_true h1]
      refine iteT ⟨_, rfl, _, _, rfl, rfl, ?_⟩
      exact asV (Q := Q) k (congrArg V.bl (decide_eq_true h2).symm)
    · exact ⟨_, rfl, _, false, rfl, .inr ⟨a, dx, fs, rfl, ea, rfl⟩, _, rfl, iteF k⟩
theorem scSize : FnScope ["thing"] ["thing"] (defScope tSize) := ⟨rfl, rfl, rfl, by decide +kernel, rfl, by decide +kernel, by decide +kernel⟩
theorem ok_size (F : Fun K "is_size" "is_size" tSize f fd) (T : Txt K mg CL CR CF CS) (D : Def1 P w K mg base 2 "is_between" ["thing", "low", "high"] (spBetween CF)) : FnOk P w K mg base CX0 3 f fd ["thing"] spSize := by
  refine F.ok scSize (fun vs H Q E h => ?_) (fun cdv A outer s H vs Q E hr h => ?_)
  · obtain ⟨i, rfl, _⟩ := h
    rfl
  · obtain ⟨i, rfl, h1, h2, k⟩ := h
    obtain ⟨tk, ek⟩ := T.largest
    refine ⟨_, pss_one (ps_ret (call1 D hr (pa_cons (pv 0) (pa_cons pe_int (pa_cons (pe_glob (v := .int (10 ^ 30)) rfl ek ⟨_, rfl⟩) pa_nil))))), ?_⟩
    exact ⟨_, rfl, _, _, _, true, rfl, .inl ⟨_, rfl, h1, h2, rfl⟩, k⟩
theorem scModAt : FnScope ["wrap", "n"] ["wrap", "n"] (defScope tModAt) := ⟨rfl, rfl, rfl, by decide +kernel, rfl, by decide +kernel, by decide +kernel⟩
theorem ok_modat (F : Fun K "modulus_at" "modulus_at" tModAt f fd) (T : Txt K mg CL CR CF CS) (D : Def1 P w K mg base 1 "is_whole" ["thing"] (spWhole CF)) : FnOk P w K mg base CX0 2 f fd ["wrap", "n"] (spModAt CF) := by
  refine F.ok scModAt (fun vs H Q E h => ?_) (fun cdv A outer s H vs Q E hr h => ?_)
  · obtain ⟨v, n, m, rfl, _⟩ := h
    rfl
  · obtain ⟨v, n, m, rfl, hv, k⟩ := h
    refine ⟨_, pss_cons (ps_if (pt_val (call1 D hr (pa_cons (pv 0) pa_nil))) (pss_one (ps_ret (pe_op op_shl pe_int (pv 0)))) pss_nil)
      (pss_one (ps_ret (pe_op op_add (pe_op op_mul (pe_fld (pv 0) rfl) (pv 1)) (pe_fld (pv 0) rfl)))), ?_⟩
    rcases hv with ⟨wd, rfl, h1, h2, rfl⟩ | ⟨a, dx, p, q, rfl, ea, h1, h2, rfl⟩
    · refine ⟨_, rfl, _, true, rfl, .inl ⟨_, rfl, rfl⟩, _, rfl, iteT ?_⟩
      refine ⟨_, rfl, _, _, rfl, rfl, ⟨h1, by omega, by decide⟩, ?_⟩
      exact asV (Q := Q) k (congrArg V.int (Int.one_mul _).symm)
    · refine ⟨_, rfl, _, false, rfl, .inr ⟨a, dx, _, rfl, ea, rfl⟩, _, rfl, iteF ?_⟩
      exact ⟨_, rfl, a, CF, dx, _, _, rfl, ea, T.cF, T.fS, fm_slope _ _, _, rfl, _, _, rfl, rfl, .inl ⟨by omega, by omega⟩, _, rfl, a, CF, dx, _, _, rfl, ea, T.cF, T.fB, fm_base _ _, _, _, rfl, rfl, k⟩
theorem scHasOut : FnScope ["rule", "n", "modulus"] ["rule", "n", "modulus"] (defScope tHasOut) := ⟨rfl, rfl, rfl, by decide +kernel, rfl, by decide +kernel, by decide +kernel⟩
theorem ok_hasout (F : Fun K "has_outside" "has_outside" tHasOut f fd) : FnOk P w K mg base CX0 1 f fd ["rule", "n", "modulus"] spHasOut := by
  refine F.ok scHasOut (fun vs H Q E h => ?_) (fun cdv A outer s H vs Q E hr h => ?_)
  · obtain ⟨r, n, m, rfl, _⟩ := h
    rfl
  · obtain ⟨r, n, m, rfl, hv, k⟩ := h
    refine ⟨_, pss_one (ps_ret (pe_and (pe_cmpR op_eq (pv 0) pe_str (nomark _)) (pe_one (pe_cmpR op_gt (pv 2) (pe_op op_mul pe_int (pv 1)) (nomark _))))), ?_⟩
    refine ⟨_, rfl, rfl, _, rfl, ?_⟩
    refine ite2 (fun hc => ?_) (fun _ => k)
    have hr' : r = "off" := V.str.inj (of_decide_eq_true hc)
    have hm := hv hr'
    refine ⟨_, rfl, _, rfl, _, _, rfl, rfl, .inl ⟨by decide, by decide⟩, _, _, rfl, rfl, ?_⟩
    exact asV (Q := Q) k (congrArg V.bl (decide_eq_false (by omega)).symm)
/-! ### the scheme's properties -/
theorem scScWrap : FnScope ["self"] ["self"] (defScope tScWrap) := ⟨rfl, rfl, rfl, by decide +kernel, rfl, by decide +kernel, by decide +kernel⟩
theorem ok_scwrap (F : Fun K "wrap" "Scheme.wrap" tScWrap f fd) (T : Txt K mg CL CR CF CS) : FnOk P w K mg base CX0 1 f fd ["self"] (getSp CS "own_wrap") := by
  refine F.ok scScWrap (fun vs H Q E h => ?_) (fun cdv A outer s H vs Q E hr h => ?_)
  · obtain ⟨a, dx, fs, v, rfl, _⟩ := h
    rfl
  · obtain ⟨a, dx, fs, v, rfl, ea, l, k⟩ := h
    exact ⟨_, pss_one (ps_ret (pe_fld (pv 0) rfl)), _, rfl, a, CS, dx, _, _, rfl, ea, T.cS, T.sW, l, k⟩
theorem scScSlot : FnScope ["self"] ["self"] (defScope tScSlot) := ⟨rfl, rfl, rfl, by decide +kernel, rfl, by decide +kernel, by decide +kernel⟩
theorem ok_scslot (F : Fun K "slot" "Scheme.slot" tScSlot f fd) (T : Txt K mg CL CR CF CS) : FnOk P w K mg base CX0 1 f fd ["self"] (getSp CS "own_slot") := by
  refine F.ok scScSlot (fun vs H Q E h => ?_) (fun cdv A outer s H vs Q E hr h => ?_)
  · obtain ⟨a, dx, fs, v, rfl, _⟩ := h
    rfl
  · obtain ⟨a, dx, fs, v, rfl, ea, l, k⟩ := h
    exact ⟨_, pss_one (ps_ret (pe_fld (pv 0) rfl)), _, rfl, a, CS, dx, _, _, rfl, ea, T.cS, T.sS, l, k⟩
theorem scScWhen : FnScope ["self"] ["self"] (defScope tScWhen) := ⟨rfl, rfl, rfl, by decide +kernel, rfl, by decide +kernel, by decide +kernel⟩
theorem ok_scwhen (F : Fun K "when" "Scheme.when" tScWhen f fd) (T : Txt K mg CL CR CF CS) : FnOk P w K mg base CX0 1 f fd ["self"] (getSp CS "own_when") := by
  refine F.ok scScWhen (fun vs H Q E h => ?_) (fun cdv A outer s H vs Q E hr h => ?_)
  · obtain ⟨a, dx, fs, v, rfl, _⟩ := h
    rfl
  · obtain ⟨a, dx, fs, v, rfl, ea, l, k⟩ := h
    exact ⟨_, pss_one (ps_ret (pe_fld (pv 0) rfl)), _, rfl, a, CS, dx, _, _, rfl, ea, T.cS, T.sH, l, k⟩
theorem scLogPut : FnScope ["self"] ["self"] (defScope tLogPut) := ⟨rfl, rfl, rfl, by decide +kernel, rfl, by decide +kernel, by decide +kernel⟩
theorem ok_logput (F : Fun K "put_count" "Log.put_count" tLogPut f fd) (T : Txt K mg CL CR CF CS) : FnOk P w K mg base CX0 1 f fd ["self"] (getSp CL "laid") := by
  refine F.ok scLogPut (fun vs H Q E h => ?_) (fun cdv A outer s H vs Q E hr h => ?_)
  · obtain ⟨a, dx, fs, v, rfl, _⟩ := h
    rfl
  · obtain ⟨a, dx, fs, v, rfl, ea, l, k⟩ := h
    exact ⟨_, pss_one (ps_ret (pe_fld (pv 0) rfl)), _, rfl, a, CL, dx, _, _, rfl, ea, T.cL, T.lL, l, k⟩
end
end K61
/-! The program's defs, second part: the modulus of a log, Log, Reader, Form. -/
namespace K61
open PySem L2
section
variable {P : Program} {w : World} {K : PySem.W.Frag} {mg : Str → Option Value} {base : Heap} {f CL CR CF CS : Addr} {fd : FuncData}
theorem scModOf : FnScope ["scheme", "n", "modulus"] ["scheme", "n"] (defScope tModOf) := ⟨rfl, rfl, rfl, by decide +kernel, rfl, by decide +kernel, by decide +kernel⟩
theorem ok_modof (F : Fun K "modulus_of" "modulus_of" tModOf f fd) (T : Txt K mg CL CR CF CS) (D : Def1 P w K mg base 3 "is_size" ["thing"] spSize) (D2 : Def1 P w K mg base 2 "modulus_at" ["wrap", "n"] (spModAt CF))
    (D3 : Prp1 P w K mg base 1 CS "wrap" (getSp CS "own_wrap")) : FnOk P w K mg base CX0 4 f fd ["scheme", "n"] (spModOf CF CS) := by
  refine F.ok scModOf (fun vs H Q E h => ?_) (fun cdv A outer s H vs Q E hr h => ?_)
  · obtain ⟨a, dx, wv, sl, em, fu, wh, n, m, rfl, _⟩ := h
    rfl
  · obtain ⟨a, dx, wv, sl, em, fu, wh, n, m, rfl, ea, h1, h2, hw, hm, k⟩ := h
    refine ⟨_, pss_cons (ps_if (pt_not (pt_val (call1 D hr (pa_cons (pv 1) pa_nil)))) pss_never pss_nil)
      (pss_cons (ps_set (i := 2) scModOf.nd rfl (Or.inl rfl) (call1 D2 (hr.mono (by decide)) (pa_cons (prop1 (pv 0) T.cS D3 (hr.mono (by decide))) (pa_cons (pv 1) pa_nil))))
      (pss_cons (ps_if (pt_cmpR op_lt (pv 2) pe_int (nomark _)) pss_never pss_nil) (pss_one (ps_ret (pv 2))))), ?_⟩
    refine ⟨_, rfl, _, rfl, h1, h2, _, rfl, iteF ?_⟩
    refine ⟨_, rfl, a, dx, _, rfl, ea, a, dx, _, wv, rfl, ea, rfl, _, rfl, wv, n, m, rfl, hw, ?_⟩
    refine ⟨_, rfl, _, _, rfl, rfl, _, rfl, ?_⟩
    rw [decide_eq_false (show ¬ m < 1 by omega)]
    exact iteF ⟨_, rfl, k⟩
theorem scLogMod : FnScope ["scheme", "n", "modulus"] ["scheme", "n"] (defScope tLogMod) := ⟨rfl, rfl, rfl, by decide +kernel, rfl, by decide +kernel, by decide +kernel⟩
theorem ok_logmod (F : Fun K "log_modulus" "log_modulus" tLogMod f fd) (T : Txt K mg CL CR CF CS) (D : Def1 P w K mg base 4 "modulus_of" ["scheme", "n"] (spModOf CF CS)) (D2 : Def1 P w K mg base 1 "has_outside" ["rule", "n", "modulus"] spHasOut)
    (D3 : Prp1 P w K mg base 1 CS "when" (getSp CS "own_when")) (D4 : Prp1 P w K mg base 1 CS "slot" (getSp CS "own_slot")) : FnOk P w K mg base CX0 5 f fd ["scheme", "n"] (spLogMod CF CS) := by
  refine F.ok scLogMod (fun vs H Q E h => ?_) (fun cdv A outer s H vs Q E hr h => ?_)
  · obtain ⟨a, n, m, rfl, _⟩ := h
    rfl
  · obtain ⟨a, n, m, rfl, ⟨dx, wv, sl, em, fu, ea, h1, h2, hw, hm, hd, ho⟩, k⟩ := h
    refine ⟨_, pss_cons (ps_set (i := 2) scLogMod.nd rfl (Or.inl rfl) (call1 D hr (pa_cons (pv 0) (pa_cons (pv 1) pa_nil))))
      (pss_cons (ps_if (PW.pt (pw_or (pt_cmpR op_ne (prop1 (pv 0) T.cS D3 (hr.mono (by decide))) pe_str (nomark _)) (pw_or (pt_cmpR op_ne (pe_op op_mod (pv 2) (pv 1)) pe_int (nomark _))
        (pw_or1 (pt_val (call1 D2 (hr.mono (by decide)) (pa_cons (prop1 (pv 0) T.cS D4 (hr.mono (by decide))) (pa_cons (pv 1) (pa_cons (pv 2) pa_nil))))))))) pss_never pss_nil)
      (pss_one (ps_ret (pv 2)))), ?_⟩
    refine ⟨_, rfl, _, rfl, a, dx, wv, _, em, fu, _, n, m, rfl, ea, h1, h2, hw, hm, ?_⟩
    refine ⟨_, rfl, a, dx, _, rfl, ea, a, dx, _, _, rfl, ea, rfl, rfl, _, rfl, ?_⟩
    refine iteNS rfl ?_
    refine ⟨_, rfl, _, rfl, _, _, rfl, rfl, (by show (0 : Int) < n; omega), rfl, _, rfl, ?_⟩
    refine iteNS (congrArg V.int hd) ?_
    refine ⟨_, rfl, a, dx, _, rfl, ea, a, dx, _, _, rfl, ea, rfl, _, rfl, _, rfl, sl, n, m, rfl, ho, _, rfl, iteF ?_⟩
    exact ⟨_, rfl, k⟩
/-! ### Log -/
theorem scLogInit : FnScope ["self", "scheme", "n"] ["self", "scheme", "n"] (defScope tLogInit) := ⟨rfl, rfl, rfl, by decide +kernel, rfl, by decide +kernel, by decide +kernel⟩
theorem ok_loginit (F : Fun K "__init__" "Log.__init__" tLogInit f fd) (T : Txt K mg CL CR CF CS) (D : Def1 P w K mg base 5 "log_modulus" ["scheme", "n"] (spLogMod CF CS)) : FnOk P w K mg base CX0 6 f fd ["self", "scheme", "n"] (spLogInit CF CS CL) := by
  refine F.ok scLogInit (fun vs H Q E h => ?_) (fun cdv A outer s H vs Q E hr h => ?_)
  · obtain ⟨x, dx, a, n, m, rfl, _⟩ := h
    rfl
  · obtain ⟨x, dx, a, n, m, rfl, ex, hs, k⟩ := h
    refine ⟨_, pss_cons (ps_fld (pv 0) (call1 D hr (pa_cons (pv 1) (pa_cons (pv 2) pa_nil))) rfl) (pss_cons (ps_fld (pv 0) (pv 2) rfl) (pss_one (ps_fld (pv 0) pe_int rfl))), ?_⟩
    refine ⟨_, rfl, _, rfl, a, n, m, rfl, hs, ?_⟩
    refine ⟨_, rfl, x, CL, dx, [], rfl, ex, T.cL, T.lM, (by show 0 < 1000; decide), ?_⟩
    refine ⟨_, rfl, _, rfl, x, CL, dx, _, rfl, upd_same, T.cL, T.lS, (by show 1 < 1000; decide), ?_⟩
    refine ⟨_, rfl, x, CL, dx, _, rfl, upd_same, T.cL, T.lL, (by show 2 < 1000; decide), ?_⟩
    show Q .non _
    rw [upd_upd, upd_upd]
    exact k
theorem scLogIadd : FnScope ["self", "other"] ["self", "other"] (defScope tLogIadd) := ⟨rfl, rfl, rfl, by decide +kernel, rfl, by decide +kernel, by decide +kernel⟩
theorem ok_logiadd (F : Fun K "__iadd__" "Log.__iadd__" tLogIadd f fd) (T : Txt K mg CL CR CF CS) (D : Def1 P w K mg base 2 "is_between" ["thing", "low", "high"] (spBetween CF)) : FnOk P w K mg base CX0 3 f fd ["self", "other"] (spIadd CL) := by
  refine F.ok scLogIadd (fun vs H Q E h => ?_) (fun cdv A outer s H vs Q E hr h => ?_)
  · obtain ⟨x, dx, m, n, t, j, rfl, _⟩ := h
    rfl
  · obtain ⟨x, dx, m, n, t, j, rfl, ex, h0, h1, k⟩ := h
    obtain ⟨tk, ek⟩ := T.farthest
    refine ⟨_, pss_cons (ps_if (pt_not (pt_val (call1 D hr (pa_cons (pv 1) (pa_cons pe_int (pa_cons (pe_glob (v := .int (10 ^ 40)) rfl ek ⟨_, rfl⟩) pa_nil)))))) pss_never pss_nil)
      (pss_cons (ps_fld (pv 0) (pe_op op_add (pe_fld (pv 0) rfl) (pv 1)) rfl) (pss_one (ps_ret (pv 0)))), ?_⟩
    refine ⟨_, rfl, _, _, _, true, rfl, .inl ⟨_, rfl, h0, h1, rfl⟩, _, rfl, iteF ?_⟩
    refine ⟨_, rfl, x, CL, dx, _, _, rfl, ex, T.cL, T.lL, lg_laid _ _ _, _, rfl, _, _, rfl, rfl, _, rfl, x, CL, dx, _, rfl, ex, T.cL, T.lL, (by show 3 < 1000; decide), ?_⟩
    exact ⟨_, rfl, k⟩
theorem scLogGet : FnScope ["self", "at"] ["self", "at"] (defScope tLogGet) := ⟨rfl, rfl, rfl, by decide +kernel, rfl, by decide +kernel, by decide +kernel⟩
theorem ok_logget (F : Fun K "__getitem__" "Log.__getitem__" tLogGet f fd) (T : Txt K mg CL CR CF CS) (D : Def1 P w K mg base 2 "is_between" ["thing", "low", "high"] (spBetween CF)) : FnOk P w K mg base CX0 3 f fd ["self", "at"] (spGet CL) := by
  refine F.ok scLogGet (fun vs H Q E h => ?_) (fun cdv A outer s H vs Q E hr h => ?_)
  · obtain ⟨x, dx, m, n, t, i, rfl, _⟩ := h
    rfl
  · obtain ⟨x, dx, m, n, t, i, rfl, ex, hn, h0, h1, k⟩ := h
    refine ⟨_, pss_cons (ps_if (pt_not (pt_val (call1 D hr (pa_cons (pv 1) (pa_cons pe_int (pa_cons (pe_op op_sub (pe_fld (pv 0) rfl) pe_int) pa_nil)))))) pss_never pss_nil)
      (pss_one (ps_ret (pe_callB (call_max2 rfl) (by rfl) T.max bMax (pa_cons pe_int (pa_cons (pe_op op_sub (pe_fld (pv 0) rfl) (pe_op op_mod (pe_op op_sub (pe_op op_sub (pe_fld (pv 0) rfl) pe_int) (pv 1)) (pe_fld (pv 0) rfl))) pa_nil))))), ?_⟩
    refine ⟨_, rfl, _, rfl, x, CL, dx, _, _, rfl, ex, T.cL, T.lS, lg_size _ _ _, _, _, rfl, rfl, _, _, _, true, rfl, .inl ⟨_, rfl, h0, h1, rfl⟩, _, rfl, iteF ?_⟩
    refine ⟨_, rfl, x, CL, dx, _, _, rfl, ex, T.cL, T.lL, lg_laid _ _ _, _, rfl, x, CL, dx, _, _, rfl, ex, T.cL, T.lL, lg_laid _ _ _, _, _, rfl, rfl, _, rfl, _, _, rfl, rfl, _, rfl, x, CL, dx, _, _, rfl, ex, T.cL, T.lS, lg_size _ _ _, ?_⟩
    exact ⟨_, _, rfl, rfl, hn, _, _, rfl, rfl, _, _, rfl, k⟩
/-! ### Reader -/
theorem scRdInit : FnScope ["self", "log", "back"] ["self", "log", "back"] (defScope tRdInit) := ⟨rfl, rfl, rfl, by decide +kernel, rfl, by decide +kernel, by decide +kernel⟩
theorem ok_rdinit (F : FunD K "__init__" "Reader.__init__" (defArgs tRdInit) (defBody tRdInit) (defScope tRdInit) [] [("back", .int 0)] f fd) (T : Txt K mg CL CR CF CS) (D : Def1 P w K mg base 2 "is_between" ["thing", "low", "high"] (spBetween CF))
    (D2 : Prp1 P w K mg base 1 CL "put_count" (getSp CL "laid")) : FnOk P w K mg base CX0 3 f fd ["self", "log", "back"] (spRdInit CL CR) := by
  refine F.ok scRdInit (fun vs H Q E h => ?_) (fun cdv A outer s H vs Q E hr h => ?_)
  · obtain ⟨x, dx, b, db, m, n, t, j, rfl, _⟩ := h
    rfl
  · obtain ⟨x, dx, b, db, m, n, t, j, rfl, ex, eb, h0, h1, k⟩ := h
    have nbx : b ≠ x := ne_of eb ex (by intro z; injection z with _ _ z; cases z)
    refine ⟨_, PSs.nox (pss_cons (ps_if (pt_not (pt_val (call1 D hr (pa_cons (pv 2) (pa_cons pe_int (pa_cons (prop1 (pv 1) T.cL D2 (hr.mono (by decide))) pa_nil)))))) pss_never pss_nil)
      (pss_cons (ps_fld (pv 0) (pv 1) rfl) (pss_one (ps_fld (pv 0) (pe_op op_sub (prop1 (pv 1) T.cL D2 (hr.mono (by decide))) (pv 2)) rfl)))), ?_⟩
    refine ⟨_, rfl, _, rfl, b, db, _, rfl, eb, b, db, _, _, rfl, eb, lg_laid _ _ _, _, _, _, true, rfl, .inl ⟨_, rfl, h0, h1, rfl⟩, _, rfl, iteF ?_⟩
    refine ⟨_, rfl, _, rfl, x, CR, dx, [], rfl, ex, T.cR, T.rS, (by show 0 < 1000; decide), ?_⟩
    have eb' : ∀ o, (upd H x o) b = some (.ins CL db (lgF m n t)) := fun o => by rw [upd_ne nbx]; exact eb
    refine ⟨_, rfl, b, db, _, rfl, eb' _, b, db, _, _, rfl, eb' _, lg_laid _ _ _, _, rfl, _, _, rfl, rfl, _, rfl, x, CR, dx, _, rfl, upd_same, T.cR, T.rP, (by show 1 < 1000; decide), ?_⟩
    show Q .non _
    rw [upd_upd]
    exact k
theorem scRdLag : FnScope ["self"] ["self"] (defScope tRdLag) := ⟨rfl, rfl, rfl, by decide +kernel, rfl, by decide +kernel, by decide +kernel⟩
theorem ok_rdlag (F : Fun K "lag" "Reader.lag" tRdLag f fd) (T : Txt K mg CL CR CF CS) (D2 : Prp1 P w K mg base 1 CL "put_count" (getSp CL "laid")) : FnOk P w K mg base CX0 3 f fd ["self"] (spLag CL CR) := by
  refine F.ok scRdLag (fun vs H Q E h => ?_) (fun cdv A outer s H vs Q E hr h => ?_)
  · obtain ⟨x, dx, b, db, m, n, t, q, rfl, _⟩ := h
    rfl
  · obtain ⟨x, dx, b, db, m, n, t, q, rfl, ex, eb, k⟩ := h
    refine ⟨_, pss_one (ps_ret (pe_op op_sub (prop1 (pe_fld (pv 0) rfl) T.cL D2 hr) (pe_fld (pv 0) rfl))), ?_⟩
    exact ⟨_, rfl, x, CR, dx, _, _, rfl, ex, T.cR, T.rS, rd_src _ _, b, db, _, rfl, eb, b, db, _, _, rfl, eb, lg_laid _ _ _, _, rfl, x, CR, dx, _, _, rfl, ex, T.cR, T.rP, rd_pas _ _, _, _, rfl, rfl, k⟩
theorem scRdBel : FnScope ["self"] ["self"] (defScope tRdBel) := ⟨rfl, rfl, rfl, by decide +kernel, rfl, by decide +kernel, by decide +kernel⟩
theorem ok_rdbel (F : Fun K "believed" "Reader.believed" tRdBel f fd) (T : Txt K mg CL CR CF CS) (D2 : Prp1 P w K mg base 1 CL "put_count" (getSp CL "laid")) : FnOk P w K mg base CX0 3 f fd ["self"] (spBel CL CR) := by
  refine F.ok scRdBel (fun vs H Q E h => ?_) (fun cdv A outer s H vs Q E hr h => ?_)
  · obtain ⟨x, dx, b, db, m, n, t, q, rfl, _⟩ := h
    rfl
  · obtain ⟨x, dx, b, db, m, n, t, q, rfl, ex, eb, hm, k⟩ := h
    refine ⟨_, pss_one (ps_ret (pe_op op_mod (pe_op op_sub (prop1 (pe_fld (pv 0) rfl) T.cL D2 hr) (pe_fld (pv 0) rfl)) (pe_fld (pe_fld (pv 0) rfl) rfl))), ?_⟩
    refine ⟨_, rfl, x, CR, dx, _, _, rfl, ex, T.cR, T.rS, rd_src _ _, b, db, _, rfl, eb, b, db, _, _, rfl, eb, lg_laid _ _ _, _, rfl, x, CR, dx, _, _, rfl, ex, T.cR, T.rP, rd_pas _ _, _, _, rfl, rfl, ?_⟩
    exact ⟨_, rfl, x, CR, dx, _, _, rfl, ex, T.cR, T.rS, rd_src _ _, b, CL, db, _, _, rfl, eb, T.cL, T.lM, lg_mod _ _ _, _, _, rfl, rfl, hm, k⟩
theorem scRdCall : FnScope ["self", "believed", "lost", "counter"] ["self"] (defScope tRdCall) := ⟨rfl, rfl, rfl, by decide +kernel, rfl, by decide +kernel, by decide +kernel⟩
theorem ok_rdcall (F : Fun K "__call__" "Reader.__call__" tRdCall f fd) (T : Txt K mg CL CR CF CS) (D : Prp1 P w K mg base 3 CR "believed" (spBel CL CR)) (D2 : Mth1 P w K mg base 3 CL "__getitem__" ["self", "at"] (spGet CL)) : FnOk P w K mg base CX0 5 f fd ["self"] (spCall CL CR) := by
  refine F.ok scRdCall (fun vs H Q E h => ?_) (fun cdv A outer s H vs Q E hr h => ?_)
  · obtain ⟨x, dx, b, db, m, n, t, q, rfl, _⟩ := h
    rfl
  · obtain ⟨x, dx, b, db, m, n, t, q, rfl, ex, eb, g, k1, k2⟩ := h
    have nbx : b ≠ x := ne_of eb ex (by intro z; injection z with _ _ z; cases z)
    refine ⟨_, pss_cons (ps_set (i := 1) scRdCall.nd rfl (Or.inl rfl) (prop1 (pv 0) T.cR D hr))
      (pss_cons (ps_if (pt_cmpR op_eq (pv 1) pe_int (nomark _)) (pss_one (ps_ret pe_non)) pss_nil)
      (pss_cons (ps_set (i := 2) scRdCall.nd rfl (Or.inl rfl) (pe_callB (call_max2 rfl) (by rfl) T.max bMax (pa_cons pe_int (pa_cons (pe_op op_sub (pv 1) (pe_fld (pe_fld (pv 0) rfl) rfl)) pa_nil))))
      (pss_cons (ps_set (i := 3) scRdCall.nd rfl (Or.inl rfl) (pe_op op_mod (pe_op op_add (pe_fld (pv 0) rfl) (pv 2)) (pe_fld (pe_fld (pv 0) rfl) rfl)))
      (pss_cons (ps_fld (pv 0) (pe_op op_add (pe_op op_add (pe_fld (pv 0) rfl) (pv 2)) pe_int) rfl)
      (pss_one (ps_ret (pe_tup (pa_cons (pv 2) (pa_cons (pe_ixOwn (pe_fld (pv 0) rfl) (pe_op op_mod (pv 3) (pe_fld (pe_fld (pv 0) rfl) rfl)) D2 hr) pa_nil))))))))), ?_⟩
    refine ⟨_, rfl, x, dx, _, rfl, ex, x, dx, b, db, m, n, t, q, rfl, ex, eb, g.m0, ?_⟩
    refine ⟨_, rfl, rfl, _, rfl, ?_⟩
    by_cases h0 : (t - q) % m = 0
    · rw [decide_eq_true (show V.int ((t - q) % m) = V.int 0 by rw [h0])]
      exact iteT (k1 (due_none h0))
    · rw [decide_eq_false (show ¬ V.int ((t - q) % m) = V.int 0 from fun z => h0 (V.int.inj z))]
      refine iteF ?_
      have kv := k2 _ _ (due_some h0)
      refine ⟨_, rfl, _, rfl, x, CR, dx, _, _, rfl, ex, T.cR, T.rS, rd_src _ _, b, CL, db, _, _, rfl, eb, T.cL, T.lS, lg_size _ _ _, _, _, rfl, rfl, _, _, rfl, ?_⟩
      have el : (if (t - q) % m - n > 0 then (t - q) % m - n else 0) = lostOf n ((t - q) % m) := by
        unfold lostOf
        by_cases hc : (t - q) % m > n
        · rw [if_pos hc, if_pos (by omega)]
        · rw [if_neg hc, if_neg (by omega)]
      rw [el]
      refine ⟨_, rfl, x, CR, dx, _, _, rfl, ex, T.cR, T.rP, rd_pas _ _, _, rfl, _, _, rfl, rfl, _, rfl, x, CR, dx, _, _, rfl, ex, T.cR, T.rS, rd_src _ _, b, CL, db, _, _, rfl, eb, T.cL, T.lM, lg_mod _ _ _, _, _, rfl, rfl, g.m0, ?_⟩
      refine ⟨_, rfl, x, CR, dx, _, _, rfl, ex, T.cR, T.rP, rd_pas _ _, _, rfl, _, _, rfl, rfl, _, _, rfl, rfl, _, rfl, x, CR, dx, _, rfl, ex, T.cR, T.rP, (by show 2 < 1000; decide), ?_⟩
      have ex' : ∀ o, (upd H x o) x = some o := fun o => upd_same
      have eb' : ∀ o, (upd H x o) b = some (.ins CL db (lgF m n t)) := fun o => by rw [upd_ne nbx]; exact eb
      refine ⟨_, rfl, _, rfl, x, CR, dx, _, _, rfl, ex' _, T.cR, T.rS, rd_src _ _, _, rfl, _, rfl, x, CR, dx, _, _, rfl, ex' _, T.cR, T.rS, rd_src _ _, b, CL, db, _, _, rfl, eb' _, T.cL, T.lS, lg_size _ _ _, _, _, rfl, rfl, g.n0, ?_⟩
      refine ⟨b, db, _, rfl, eb' _, b, db, m, n, t, _, rfl, eb' _, g.n0, slot_lo g.n0, slot_hi g.n0, ?_⟩
      refine ⟨by show 2 ≤ sizeLine; decide, fun p hp => ?_⟩
      have e := read_val g h0
      show Q (.ref p) (upd (upd H x (.ins CR dx (rdF b (q + lostOf n ((t - q) % m) + 1)))) p (.tup [.int (lostOf n ((t - q) % m)), .int (if t - (t - 1 - (q + lostOf n ((t - q) % m)) % m % n) % n > 0 then t - (t - 1 - (q + lostOf n ((t - q) % m)) % m % n) % n else 0)]))
      rw [e]
      exact kv p hp
/-! ### Form -/
theorem scFmInit : FnScope ["self", "slope", "base"] ["self", "slope", "base"] (defScope tFmInit) := ⟨rfl, rfl, rfl, by decide +kernel, rfl, by decide +kernel, by decide +kernel⟩
theorem ok_fminit (F : Fun K "__init__" "Form.__init__" tFmInit f fd) (T : Txt K mg CL CR CF CS) (D : Def1 P w K mg base 1 "is_whole" ["thing"] (spWhole CF)) : FnOk P w K mg base CX0 2 f fd ["self", "slope", "base"] (spFmInit CF) := by
  refine F.ok scFmInit (fun vs H Q E h => ?_) (fun cdv A outer s H vs Q E hr h => ?_)
  · obtain ⟨x, dx, p, q, rfl, _⟩ := h
    rfl
  · obtain ⟨x, dx, p, q, rfl, ex, k⟩ := h
    refine ⟨_, pss_cons (ps_if (PW.pt (pw_or (pt_not (pt_val (call1 D hr (pa_cons (pv 1) pa_nil)))) (pw_or1 (pt_not (pt_val (call1 D hr (pa_cons (pv 2) pa_nil))))))) pss_never pss_nil)
      (pss_cons (ps_fld (pv 0) (pv 1) rfl) (pss_one (ps_fld (pv 0) (pv 2) rfl))), ?_⟩
    refine ⟨_, rfl, _, true, rfl, .inl ⟨_, rfl, rfl⟩, _, rfl, iteF ?_⟩
    refine ⟨_, rfl, _, true, rfl, .inl ⟨_, rfl, rfl⟩, _, rfl, iteF ?_⟩
    refine ⟨_, rfl, _, rfl, x, CF, dx, [], rfl, ex, T.cF, T.fS, (by show 0 < 1000; decide), ?_⟩
    refine ⟨_, rfl, _, rfl, x, CF, dx, _, rfl, upd_same, T.cF, T.fB, (by show 1 < 1000; decide), ?_⟩
    show Q .non _
    rw [upd_upd]
    exact k
end
end K61
/-! The program's defs, third part: what a scheme asks of its parts, Scheme. -/
namespace K61
open PySem L2
theorem inV_str {z : Str} {ws : List Str} (h : z ∈ ws) : inV (V.str z) (ws.map V.str) = true := by
  unfold inV
  rw [List.any_eq_true]
  exact ⟨V.str z, List.mem_map_of_mem h, beq_self_eq_true z⟩
theorem flat_str (ws : List Str) : (ws.map V.str).all flatV = true := by
  rw [List.all_eq_true]
  intro v hv
  obtain ⟨z, _, rfl⟩ := List.mem_map.mp hv
  rfl
/-- a wrap that a scheme takes -/
def WpV (CF : Addr) (H : Hp) (v : V) : Prop := (∃ w, v = .int w ∧ 1 ≤ w ∧ w ≤ 100) ∨ (∃ a dx p q, v = .ref a ∧ H a = some (.ins CF dx (fmF p q)) ∧ 0 ≤ p ∧ p ≤ 4 ∧ -20 ≤ q ∧ q ≤ 20)
theorem WpV.same {CF : Addr} {H H' : Hp} {v : V} (h : WpV CF H v) (s : Same H H') : WpV CF H' v := by
  rcases h with h | ⟨a, dx, p, q, e, ea, r⟩
  · exact .inl h
  · exact .inr ⟨a, dx, p, q, e, s _ _ ea, r⟩
/-- a full rule that a scheme takes -/
def BrV (CF : Addr) (H : Hp) (b : Addr) : Prop := (∃ z : Str, H b = some (.tup [.str z]) ∧ z ∈ (["next", "note"] : List Str)) ∨
  (∃ (z c : Str) (a dx : Addr) (p q : Int), H b = some (.tup [.str z, .str c, .ref a]) ∧ z ∈ (["diff", "count"] : List Str) ∧ c ∈ (["=", ">="] : List Str) ∧ H a = some (.ins CF dx (fmF p q)) ∧ 0 ≤ p ∧ p ≤ 4 ∧ -20 ≤ q ∧ q ≤ 20)
theorem BrV.same {CF : Addr} {H H' : Hp} {b : Addr} (h : BrV CF H b) (s : Same H H') : BrV CF H' b := by
  rcases h with ⟨z, e, r⟩ | ⟨z, c, a, dx, p, q, e, r1, r2, ea, r⟩
  · exact .inl ⟨z, s _ _ e, r⟩
  · exact .inr ⟨z, c, a, dx, p, q, s _ _ e, r1, r2, s _ _ ea, r⟩
theorem same_new {H : Hp} {p : Addr} {o : HO} (h : H p = none) : Same H (upd H p o) := fun b u e => by rw [upd_ne (ne_of_none e h)]; exact e
def spWord (K : PySem.W.Frag) : Sp := fun vs H Q _ => ∃ (z : Str) (a : Addr) (ws : List Str), vs = [.str z, .ref a] ∧ SqT K H a (ws.map V.str) ∧ z ∈ ws ∧ Q (.bl true) H
def spPart (CF : Addr) : Sp := fun vs H Q _ => ∃ a dx p q, vs = [.ref a] ∧ H a = some (.ins CF dx (fmF p q)) ∧ 0 ≤ p ∧ p ≤ 4 ∧ -20 ≤ q ∧ q ≤ 20 ∧ Q (.bl true) H
def spIsWrap (CF : Addr) : Sp := fun vs H Q _ => ∃ v, vs = [v] ∧ WpV CF H v ∧ Q (.bl true) H
def spIsSlot : Sp := fun vs H Q _ => ∃ z v, vs = [.str z, v] ∧ z ∈ (["rest", "off", "mask"] : List Str) ∧ (z = "mask" → ∃ w, v = .int w) ∧ ∀ H', Same H H' → Q (.bl true) H'
def spFull (CF : Addr) : Sp := fun vs H Q _ => ∃ b, vs = [.ref b] ∧ BrV CF H b ∧ ∀ H', Same H H' → Q (.bl true) H'
def spScInit (CF CS : Addr) : Sp := fun vs H Q _ => ∃ x dx wv sl em fu wh, vs = [.ref x, wv, .str sl, .str em, .ref fu, .str wh] ∧ H x = some (.ins CS dx []) ∧ WpV CF H wv ∧ sl ∈ (["rest", "off", "mask"] : List Str) ∧ (sl = "mask" → ∃ w, wv = .int w) ∧
  em ∈ (["same", "count", "note"] : List Str) ∧ BrV CF H fu ∧ wh ∈ (["refuse", "drop", "over"] : List Str) ∧
  ∀ H', (∀ b o, b ≠ x → H b = some o → H' b = some o) → H' x = some (.ins CS dx (scF wv (.str sl) (.str em) (.ref fu) (.str wh))) → Q .non H'
section
variable {P : Program} {w : World} {K : PySem.W.Frag} {mg : Str → Option Value} {base : Heap} {f CL CR CF CS : Addr} {fd : FuncData}
theorem scWord : FnScope ["thing", "words"] ["thing", "words"] (defScope tWord) := ⟨rfl, rfl, rfl, by decide +kernel, rfl, by decide +kernel, by decide +kernel⟩
theorem ok_word (F : Fun K "is_word" "is_word" tWord f fd) (T : Txt K mg CL CR CF CS) : FnOk P w K mg base CX0 1 f fd ["thing", "words"] (spWord K) := by
  refine F.ok scWord (fun vs H Q E h => ?_) (fun cdv A outer s H vs Q E hr h => ?_)
  · obtain ⟨z, a, ws, rfl, _⟩ := h
    rfl
  · obtain ⟨z, a, ws, rfl, hq, hz, k⟩ := h
    refine ⟨_, pss_one (ps_ret (pe_and (pe_callB call_isi (by rfl) T.isi bI (pa_cons (pv 0) (pa_cons (pe_bltn (v := .ty "str") (by rfl) T.str bStr rfl) pa_nil)))
      (pe_one (pe_cmpR op_in_seq (pv 0) (pv 1) (by rfl))))), ?_⟩
    refine ⟨_, rfl, _, _, _, _, true, rfl, .ty _, .base (.str _), kit_ty (by decide +kernel), _, rfl, iteT ?_⟩
    exact ⟨_, rfl, _, rfl, a, _, rfl, .inr hq, rfl, flat_str ws, asV (Q := Q) k (congrArg V.bl (inV_str hz).symm)⟩
theorem scPart : FnScope ["thing"] ["thing"] (defScope tPartForm) := ⟨rfl, rfl, rfl, by decide +kernel, rfl, by decide +kernel, by decide +kernel⟩
theorem ok_part (F : Fun K "is_part_form" "is_part_form" tPartForm f fd) (T : Txt K mg CL CR CF CS) : FnOk P w K mg base CX0 1 f fd ["thing"] (spPart CF) := by
  refine F.ok scPart (fun vs H Q E h => ?_) (fun cdv A outer s H vs Q E hr h => ?_)
  · obtain ⟨a, dx, p, q, rfl, _⟩ := h
    rfl
  · obtain ⟨a, dx, p, q, rfl, ea, h1, h2, h3, h4, k⟩ := h
    refine ⟨_, pss_one (ps_ret (pe_and (pe_callB call_isi (by rfl) T.isi bI (pa_cons (pv 0) (pa_cons (pe_glob (v := .ref CF) rfl T.gF rfl) pa_nil)))
      (pe_and (pe_chain op_le op_le pe_int (pe_fld (pv 0) rfl) pe_int) (pe_one (pe_chain op_le op_le (pe_un un_neg pe_int) (pe_fld (pv 0) rfl) pe_int))))), ?_⟩
    refine ⟨_, rfl, _, _, _, _, true, rfl, .own _, .base (.ins ea T.cF T.fc T.fg T.ft T.fm), T.ff, _, rfl, iteT ?_⟩
    refine ⟨_, rfl, a, CF, dx, _, _, rfl, ea, T.cF, T.fS, fm_slope _ _, _, _, rfl, rfl, _, rfl, ?_⟩
    rw [decide_eq_true h1]
    refine iteT ⟨_, _, rfl, rfl, _, rfl, ?_⟩
    rw [decide_eq_true h2]
    refine iteT ⟨_, rfl, _, rfl, a, CF, dx, _, _, rfl, ea, T.cF, T.fB, fm_base _ _, _, _, rfl, rfl, _, rfl, ?_⟩
    rw [decide_eq_true h3]
    exact iteT ⟨_, _, rfl, rfl, asV (Q := Q) k (congrArg V.bl (decide_eq_true h4).symm)⟩
theorem scIsWrap : FnScope ["thing"] ["thing"] (defScope tIsWrap) := ⟨rfl, rfl, rfl, by decide +kernel, rfl, by decide +kernel, by decide +kernel⟩
theorem ok_iswrap (F : Fun K "is_wrap" "is_wrap" tIsWrap f fd) (T : Txt K mg CL CR CF CS) (D : Def1 P w K mg base 2 "is_between" ["thing", "low", "high"] (spBetween CF)) (D2 : Def1 P w K mg base 1 "is_part_form" ["thing"] (spPart CF)) :
    FnOk P w K mg base CX0 3 f fd ["thing"] (spIsWrap CF) := by
  refine F.ok scIsWrap (fun vs H Q E h => ?_) (fun cdv A outer s H vs Q E hr h => ?_)
  · obtain ⟨v, rfl, _⟩ := h
    rfl
  · obtain ⟨v, rfl, hv, k⟩ := h
    obtain ⟨tk, ek⟩ := T.widest
    refine ⟨_, pss_one (ps_ret (pe_or (call1 D hr (pa_cons (pv 0) (pa_cons pe_int (pa_cons (pe_glob (v := .int 100) rfl ek ⟨_, rfl⟩) pa_nil)))) (pe_one (call1 D2 (hr.mono (by decide)) (pa_cons (pv 0) pa_nil))))), ?_⟩
    rcases hv with ⟨i, rfl, h1, h2⟩ | ⟨a, dx, p, q, rfl, ea, h1, h2, h3, h4⟩
    · exact ⟨_, rfl, _, _, _, true, rfl, .inl ⟨_, rfl, h1, h2, rfl⟩, _, rfl, iteT k⟩
    · exact ⟨_, rfl, _, _, _, false, rfl, .inr ⟨a, dx, _, rfl, ea, rfl⟩, _, rfl, iteF ⟨_, rfl, a, dx, p, q, rfl, ea, h1, h2, h3, h4, k⟩⟩
theorem scIsSlot : FnScope ["thing", "wrap"] ["thing", "wrap"] (defScope tIsSlot) := ⟨rfl, rfl, rfl, by decide +kernel, rfl, by decide +kernel, by decide +kernel⟩
theorem ok_isslot (F : Fun K "is_slot" "is_slot" tIsSlot f fd) (D : Def1 P w K mg base 1 "is_word" ["thing", "words"] (spWord K)) (D2 : Def1 P w K mg base 1 "is_whole" ["thing"] (spWhole CF)) :
    FnOk P w K mg base CX0 2 f fd ["thing", "wrap"] spIsSlot := by
  refine F.ok scIsSlot (fun vs H Q E h => ?_) (fun cdv A outer s H vs Q E hr h => ?_)
  · obtain ⟨z, v, rfl, _⟩ := h
    rfl
  · obtain ⟨z, v, rfl, hz, hm, k⟩ := h
    refine ⟨_, pss_one (ps_ret (pe_and (call1 D hr (pa_cons (pv 0) (pa_cons (pe_tup (pa_cons pe_str (pa_cons pe_str (pa_cons pe_str pa_nil)))) pa_nil)))
      (pe_one (pe_or (pe_cmpR op_ne (pv 0) pe_str (nomark _)) (pe_one (call1 D2 hr (pa_cons (pv 1) pa_nil))))))), ?_⟩
    refine ⟨_, rfl, by show 3 ≤ sizeLine; decide, fun p hp => ?_⟩
    refine ⟨z, p, ["rest", "off", "mask"], rfl, SqT.of upd_same, hz, _, rfl, iteT ?_⟩
    refine ⟨_, rfl, rfl, _, rfl, ?_⟩
    by_cases hc : z = "mask"
    · rw [decide_eq_true (congrArg V.str hc)]
      refine iteF ?_
      obtain ⟨i, rfl⟩ := hm hc
      exact ⟨_, rfl, _, true, rfl, .inl ⟨_, rfl, rfl⟩, k _ (same_new hp)⟩
    · rw [decide_eq_false (fun q => hc (V.str.inj q))]
      exact iteT (k _ (same_new hp))
theorem scFull : FnScope ["thing"] ["thing"] (defScope tFullRule) := ⟨rfl, rfl, rfl, by decide +kernel, rfl, by decide +kernel, by decide +kernel⟩
theorem ok_full (F : Fun K "is_full_rule" "is_full_rule" tFullRule f fd) (T : Txt K mg CL CR CF CS) (D : Def1 P w K mg base 1 "is_word" ["thing", "words"] (spWord K)) (D2 : Def1 P w K mg base 1 "is_part_form" ["thing"] (spPart CF)) :
    FnOk P w K mg base CX0 2 f fd ["thing"] (spFull CF) := by
  refine F.ok scFull (fun vs H Q E h => ?_) (fun cdv A outer s H vs Q E hr h => ?_)
  · obtain ⟨b, rfl, _⟩ := h
    rfl
  · obtain ⟨b, rfl, hb, k⟩ := h
    refine ⟨_, pss_cons (ps_if (PW.pt (pw_or (pt_not (pt_val (pe_callB call_isi (by rfl) T.isi bI (pa_cons (pv 0) (pa_cons (pe_bltn (v := .ty "tuple") (by rfl) T.tuple bTup rfl) pa_nil)))))
        (pw_or1 (pt_cmpR op_notIn_seq (pe_callB call_len_seq (by rfl) T.len bLen (pa_cons (pv 0) pa_nil)) (pe_tup (pa_cons pe_int (pa_cons pe_int pa_nil))) (by rfl))))) pss_never pss_nil)
      (pss_cons (ps_if (pt_cmpR op_eq (pe_callB call_len_seq (by rfl) T.len bLen (pa_cons (pv 0) pa_nil)) pe_int (nomark _))
        (pss_one (ps_ret (call1 D hr (pa_cons (pe_ix ix_tup (pv 0) pe_int (fun _ _ => rfl)) (pa_cons (pe_tup (pa_cons pe_str (pa_cons pe_str pa_nil))) pa_nil))))) pss_nil)
      (pss_one (ps_ret (pe_and (call1 D hr (pa_cons (pe_ix ix_tup (pv 0) pe_int (fun _ _ => rfl)) (pa_cons (pe_tup (pa_cons pe_str (pa_cons pe_str pa_nil))) pa_nil)))
        (pe_and (call1 D hr (pa_cons (pe_ix ix_tup (pv 0) pe_int (fun _ _ => rfl)) (pa_cons (pe_tup (pa_cons pe_str (pa_cons pe_str pa_nil))) pa_nil)))
        (pe_one (call1 D2 hr (pa_cons (pe_ix ix_tup (pv 0) pe_int (fun _ _ => rfl)) pa_nil)))))))), ?_⟩
    rcases hb with ⟨z, eb, hz⟩ | ⟨z, c, a, dx, p, q, eb, hz, hc, ea, h1, h2, h3, h4⟩
    · refine ⟨_, rfl, _, _, _, _, true, rfl, .ty _, .base (.tup eb), kit_ty (by decide +kernel), _, rfl, iteF ?_⟩
      refine ⟨_, rfl, b, _, rfl, .inr (SqT.of eb), by show 2 ≤ sizeLine; decide, fun r hr2 => ?_⟩
      have s1 : Same H (upd H r (.tup [.int 1, .int 3])) := same_new hr2
      refine ⟨r, _, rfl, .inr (SqT.of upd_same), rfl, rfl, _, rfl, iteF ?_⟩
      refine ⟨_, rfl, b, _, rfl, .inr (SqT.of (s1 _ _ eb)), rfl, _, rfl, iteT ?_⟩
      refine ⟨_, rfl, b, _, _, _, rfl, rfl, SqT.of (s1 _ _ eb), rfl, by show 2 ≤ sizeLine; decide, fun r2 hr3 => ?_⟩
      exact ⟨z, r2, ["next", "note"], rfl, SqT.of upd_same, hz, k _ (s1.trans (same_new hr3))⟩
    · refine ⟨_, rfl, _, _, _, _, true, rfl, .ty _, .base (.tup eb), kit_ty (by decide +kernel), _, rfl, iteF ?_⟩
      refine ⟨_, rfl, b, _, rfl, .inr (SqT.of eb), by show 2 ≤ sizeLine; decide, fun r hr2 => ?_⟩
      have s1 : Same H (upd H r (.tup [.int 1, .int 3])) := same_new hr2
      refine ⟨r, _, rfl, .inr (SqT.of upd_same), rfl, rfl, _, rfl, iteF ?_⟩
      refine ⟨_, rfl, b, _, rfl, .inr (SqT.of (s1 _ _ eb)), rfl, _, rfl, iteF ?_⟩
      refine ⟨_, rfl, b, _, _, _, rfl, rfl, SqT.of (s1 _ _ eb), rfl, by show 2 ≤ sizeLine; decide, fun r2 hr3 => ?_⟩
      have s2 := s1.trans (same_new (o := .tup [.str "diff", .str "count"]) hr3)
      refine ⟨z, r2, ["diff", "count"], rfl, SqT.of upd_same, hz, _, rfl, iteT ?_⟩
      refine ⟨_, rfl, b, _, _, _, rfl, rfl, SqT.of (s2 _ _ eb), rfl, by show 2 ≤ sizeLine; decide, fun r3 hr4 => ?_⟩
      have s3 := s2.trans (same_new (o := .tup [.str "=", .str ">="]) hr4)
      refine ⟨c, r3, ["=", ">="], rfl, SqT.of upd_same, hc, _, rfl, iteT ?_⟩
      exact ⟨_, rfl, b, _, _, _, rfl, rfl, SqT.of (s3 _ _ eb), rfl, a, dx, p, q, rfl, s3 _ _ ea, h1, h2, h3, h4, k _ s3⟩
theorem scScInit : FnScope ["self", "wrap", "slot", "empty", "full", "when", "truths"] ["self", "wrap", "slot", "empty", "full", "when"] (defScope tScInit) := ⟨rfl, rfl, rfl, by decide +kernel, rfl, by decide +kernel, by decide +kernel⟩
theorem ok_scinit (F : FunD K "__init__" "Scheme.__init__" (defArgs tScInit) (defBody tScInit) (defScope tScInit) [] [("when", .str "refuse")] f fd) (T : Txt K mg CL CR CF CS) (D1 : Def1 P w K mg base 3 "is_wrap" ["thing"] (spIsWrap CF))
    (D2 : Def1 P w K mg base 2 "is_slot" ["thing", "wrap"] spIsSlot) (D3 : Def1 P w K mg base 1 "is_word" ["thing", "words"] (spWord K)) (D4 : Def1 P w K mg base 2 "is_full_rule" ["thing"] (spFull CF)) :
    FnOk P w K mg base CX0 4 f fd ["self", "wrap", "slot", "empty", "full", "when"] (spScInit CF CS) := by
  refine F.ok scScInit (fun vs H Q E h => ?_) (fun cdv A outer s H vs Q E hr h => ?_)
  · obtain ⟨x, dx, wv, sl, em, fu, wh, rfl, _⟩ := h
    rfl
  · obtain ⟨x, dx, wv, sl, em, fu, wh, rfl, ex, hw, hsl, hmk, hem, hfu, hwh, k⟩ := h
    refine ⟨_, PSs.nox (pss_cons (ps_set (i := 6) scScInit.nd rfl (Or.inl rfl) (pe_lst (pa_cons (call1 D1 hr (pa_cons (pv 1) pa_nil)) (pa_cons (call1 D2 (hr.mono (by decide)) (pa_cons (pv 2) (pa_cons (pv 1) pa_nil)))
        (pa_cons (call1 D3 (hr.mono (by decide)) (pa_cons (pv 3) (pa_cons (pe_tup (pa_cons pe_str (pa_cons pe_str (pa_cons pe_str pa_nil)))) pa_nil))) (pa_cons (call1 D4 (hr.mono (by decide)) (pa_cons (pv 4) pa_nil)) pa_nil))))))
      (pss_cons (ps_expr (pe_bm PySem.F.plainAttrs_list PySem.F.slot_list_append PySem.F.type_list_append mt_append (pv 6) (pa_cons (call1 D3 (hr.mono (by decide)) (pa_cons (pv 5) (pa_cons (pe_tup (pa_cons pe_str (pa_cons pe_str (pa_cons pe_str pa_nil)))) pa_nil))) pa_nil)))
      (pss_cons (ps_if (pt_cmpR op_in_seq pe_bl (pv 6) (by rfl)) pss_never pss_nil)
      (pss_cons (ps_fld (pv 0) (pv 1) rfl) (pss_cons (ps_fld (pv 0) (pv 2) rfl) (pss_cons (ps_fld (pv 0) (pv 3) rfl) (pss_cons (ps_fld (pv 0) (pv 4) rfl) (pss_one (ps_fld (pv 0) (pv 5) rfl)))))))))
      , ?_⟩
    refine ⟨_, rfl, wv, rfl, hw, _, rfl, _, rfl, sl, wv, rfl, hsl, hmk, fun H1 s1 => ?_⟩
    refine ⟨_, rfl, by show 3 ≤ sizeLine; decide, fun p3 hp3 => ?_⟩
    have s2 := s1.trans (same_new (o := .tup [.str "same", .str "count", .str "note"]) hp3)
    refine ⟨em, p3, ["same", "count", "note"], rfl, SqT.of upd_same, hem, _, rfl, fu, rfl, hfu.same s2, fun H3 s3' => ?_⟩
    have s3 := s2.trans s3'
    refine ⟨by show 4 ≤ sizeLine; decide, fun l hl => ?_⟩
    have s4 := s3.trans (same_new (o := .lst [.bl true, .bl true, .bl true, .bl true]) hl)
    have nxl : x ≠ l := ne_of_none (s3 _ _ ex) hl
    refine ⟨_, rfl, .inl ⟨rfl, _, Or.inl (Or.inl upd_same)⟩, _, rfl, by show 3 ≤ sizeLine; decide, fun p5 hp5 => ?_⟩
    have s5 := s4.trans (same_new (o := .tup [.str "refuse", .str "drop", .str "over"]) hp5)
    have nlp : l ≠ p5 := ne_of_none upd_same hp5
    refine ⟨wh, p5, ["refuse", "drop", "over"], rfl, SqT.of upd_same, hwh, ?_⟩
    refine ⟨l, _, _, rfl, rfl, (upd_ne nlp).trans upd_same, (by show 4 < sizeLine; decide), ?_⟩
    refine ⟨_, rfl, l, _, rfl, .inl (SqL.of upd_same), rfl, rfl, _, rfl, iteF ?_⟩
    have ex6 := (upd_ne (o := .lst ([.bl true, .bl true, .bl true, .bl true] ++ [.bl true])) nxl).trans (s5 _ _ ex)
    refine ⟨_, rfl, _, rfl, x, CS, dx, [], rfl, ex6, T.cS, T.sW, (by show 0 < 1000; decide), ?_⟩
    refine ⟨_, rfl, _, rfl, x, CS, dx, _, rfl, upd_same, T.cS, T.sS, (by show 1 < 1000; decide), ?_⟩
    refine ⟨_, rfl, _, rfl, x, CS, dx, _, rfl, upd_same, T.cS, T.sE, (by show 2 < 1000; decide), ?_⟩
    refine ⟨_, rfl, _, rfl, x, CS, dx, _, rfl, upd_same, T.cS, T.sF, (by show 3 < 1000; decide), ?_⟩
    refine ⟨_, rfl, _, rfl, x, CS, dx, _, rfl, upd_same, T.cS, T.sH, (by show 4 < 1000; decide), ?_⟩
    refine k _ (fun b o hb e => ?_) upd_same
    have nbl : b ≠ l := ne_of_none (s3 _ _ e) hl
    rw [upd_ne hb, upd_ne hb, upd_ne hb, upd_ne hb, upd_ne hb, upd_ne nbl]
    exact s5 _ _ e
end
end K61
/-! The law's helpers: the pool and its draws, the reads that are due. -/
namespace K61
open PySem L2
/-! ### the pool -/
abbrev PO (c : Addr) (i b k z : Int) : HO := .lst [.ref c, .int i, .int b, .int k, .int z]
/-- at p a pool whose cells stand at c -/
structure PoolAt (c p : Addr) (ns : List Int) (H : Hp) : Prop where
  ob : ∃ i b k z, H p = some (PO c i b k z) ∧ 0 ≤ i
  ce : H c = some (.lst (ns.map V.int))
  ne : c ≠ p
  ln : ns.length ≤ 63
/-- the pool has turned, nothing else -/
structure PT (c p : Addr) (ns : List Int) (H H' : Hp) : Prop where
  at_ : PoolAt c p ns H'
  oth : ∀ b, b ≠ p → H' b = H b
theorem PT.trans {c p : Addr} {ns : List Int} {H H1 H2 : Hp} (a : PT c p ns H H1) (b : PT c p ns H1 H2) : PT c p ns H H2 := ⟨b.at_, fun x hx => (b.oth x hx).trans (a.oth x hx)⟩
theorem PT.refl {c p : Addr} {ns : List Int} {H : Hp} (a : PoolAt c p ns H) : PT c p ns H H := ⟨a, fun _ _ => rfl⟩
theorem PT.of {c p : Addr} {ns : List Int} {H : Hp} (a : PoolAt c p ns H) {i b k z : Int} (hi : 0 ≤ i) : PT c p ns H (upd H p (PO c i b k z)) :=
  ⟨⟨⟨i, b, k, z, upd_same, hi⟩, (upd_ne a.ne).trans a.ce, a.ne, a.ln⟩, fun x hx => upd_ne hx⟩
/-- a pool is a list that begins with its cells: no other list that we know -/
theorem PT.keep {c p : Addr} {ns : List Int} {H H' : Hp} (a : PT c p ns H H') {x : Addr} {o : HO} (e : H x = some o) (h : x ≠ p) : H' x = some o := (a.oth x h).trans e
theorem yes_if {σ : L2.St} {H : Hp} {A B : Hp → Prop} (h : A H) : tYes σ H (fun b H3 => if b = true then A H3 else B H3) := by
  show if true = true then A H else B H
  rw [if_pos rfl]
  exact h
def spMixed : Sp := fun vs H Q _ => ∃ a b m : Int, vs = [.int a, .int b, .int m] ∧ 0 < m ∧ ∀ v : Int, 0 ≤ v → v < m → Q (.int v) H
def spPool (K : PySem.W.Frag) : Sp := fun vs H Q _ => ∃ (a : Addr) (ns : List Int), vs = [.ref a] ∧ SqL K H a (ns.map V.int) ∧ ns.length ≤ 63 ∧ ∀ H' p c, Same H H' → H p = none → PoolAt c p ns H' → Q (.ref p) H'
def spDraw : Sp := fun vs H Q _ => ∃ (c p : Addr) (ns : List Int) (m : Int), vs = [.ref p, .int m] ∧ PoolAt c p ns H ∧ 0 < m ∧ m < 1073741824 ∧ ∀ (v : Int) H', 0 ≤ v → v < m → PT c p ns H H' → Q (.int v) H'
def spWide : Sp := fun vs H Q _ => ∃ (c p : Addr) (ns : List Int) (m : Int), vs = [.ref p, .int m] ∧ PoolAt c p ns H ∧ 0 ≤ m ∧ ∀ (v : Int) H', 0 ≤ v → v ≤ m → PT c p ns H H' → Q (.int v) H'
def spPower : Sp := fun vs H Q _ => ∃ w : Int, vs = [.int w] ∧ 0 ≤ w ∧ w ≤ 1000 ∧ Q (.int (2 ^ w.toNat)) H
def spAmount : Sp := fun vs H Q _ => ∃ (c p : Addr) (ns : List Int) (n m : Int), vs = [.ref p, .int n, .int m] ∧ PoolAt c p ns H ∧ 0 ≤ n ∧ n ≤ 10 ^ 30 ∧ 0 ≤ m ∧ m ≤ 10 ^ 31 ∧ ∀ (v : Int) H', 0 ≤ v → v ≤ 10 ^ 40 → PT c p ns H H' → Q (.int v) H'
def spDue : Sp := fun vs H Q _ => ∃ q t n m : Int, vs = [.int q, .int t, .int n, .int m] ∧ 0 < n ∧ 0 < m ∧ (due n m t q = none → Q .non H) ∧ (∀ l v, due n m t q = some (l, v) → ∀ p, H p = none → Q (.ref p) (upd H p (.tup [.int l, .int v])))
/-- the pairs ys stand as tuples at the references rs -/
def TupsAt (H : Hp) (rs : List V) (ys : List (Int × Int)) : Prop := Paired (fun v (y : Int × Int) => ∃ a, v = V.ref a ∧ H a = some (.tup [.int y.1, .int y.2])) rs ys
theorem TupsAt.same {H H' : Hp} {rs : List V} {ys : List (Int × Int)} (h : TupsAt H rs ys) (s : ∀ a xs, H a = some (.tup xs) → H' a = some (.tup xs)) : TupsAt H' rs ys :=
  Paired.mapP h fun _ _ ⟨a, e, ea⟩ => ⟨a, e, s _ _ ea⟩
def spWalk : Sp := fun vs H Q _ => ∃ q t n m k : Int, vs = [.int q, .int t, .int n, .int m, .int k] ∧ 0 < n ∧ 0 < m ∧ 0 ≤ k ∧ k ≤ 100 ∧
  ∀ H' p l rs, Same H H' → H p = none → H' p = some (.tup [.ref l, .int (reads n m t k.toNat q).2]) → H' l = some (.lst rs) → TupsAt H' rs (reads n m t k.toNat q).1 → Q (.ref p) H'
section
variable {P : Program} {w : World} {K : PySem.W.Frag} {mg : Str → Option Value} {base : Heap} {f CL CR CF CS : Addr} {fd : FuncData}
theorem scMixed : FnScope ["_law_number", "_law_place", "_law_many", "_law_first", "_law_second"] ["_law_number", "_law_place", "_law_many"] (defScope tMixed) := ⟨rfl, rfl, rfl, by decide +kernel, rfl, by decide +kernel, by decide +kernel⟩
theorem ok_mixed (F : Fun K "_law_mixed" "_law_mixed" tMixed f fd) (T : Txt K mg CL CR CF CS) : FnOk P w K mg base CX0 1 f fd ["_law_number", "_law_place", "_law_many"] spMixed := by
  refine F.ok scMixed (fun vs H Q E h => ?_) (fun cdv A outer s H vs Q E hr h => ?_)
  · obtain ⟨a, b, m, rfl, _⟩ := h
    rfl
  · obtain ⟨a, b, m, rfl, hm, k⟩ := h
    refine ⟨_, pss_cons (ps_set (i := 3) scMixed.nd rfl (Or.inl rfl) (pe_op op_mod (pe_callTy call_int1 (by rfl) T.int bInt (pa_cons (pe_op op_add (pe_op op_add (pe_op op_mul (pv 0) pe_int) (pe_op op_mul (pv 1) pe_int)) pe_int) pa_nil)) pe_int))
      (pss_cons (ps_set (i := 4) scMixed.nd rfl (Or.inl rfl) (pe_op op_mod (pe_callTy call_int1 (by rfl) T.int bInt (pa_cons (pe_op op_add (pe_op op_add (pe_op op_mul (pv 3) pe_int) (pe_op op_mul (pv 1) pe_int)) pe_int) pa_nil)) pe_int))
      (pss_one (ps_ret (pe_op op_mod (pe_callTy call_int1 (by rfl) T.int bInt (pa_cons (pv 4) pa_nil)) (pv 2))))), ?_⟩
    refine ⟨_, rfl, _, _, rfl, rfl, .inr ⟨by decide, by decide⟩, _, rfl, _, _, rfl, rfl, .inr ⟨by decide, by decide⟩, _, _, rfl, rfl, _, _, rfl, rfl, .inl ⟨_, rfl, _, _, rfl, rfl, (by show (0 : Int) < 2147483647; decide), ?_⟩⟩
    refine ⟨_, rfl, _, _, rfl, rfl, .inr ⟨by decide, by decide⟩, _, rfl, _, _, rfl, rfl, .inr ⟨by decide, by decide⟩, _, _, rfl, rfl, _, _, rfl, rfl, .inl ⟨_, rfl, _, _, rfl, rfl, (by show (0 : Int) < 2147483629; decide), ?_⟩⟩
    exact ⟨_, rfl, .inl ⟨_, rfl, _, rfl, _, _, rfl, rfl, hm, k _ (Int.emod_nonneg _ (Int.ne_of_gt hm)) (Int.emod_lt_of_pos _ hm)⟩⟩
theorem scPool : FnScope ["_law_script", "_law_cell"] ["_law_script"] (defScope tPool) := ⟨rfl, rfl, rfl, by decide +kernel, rfl, by decide +kernel, by decide +kernel⟩
theorem ok_pool (F : Fun K "_law_pool" "_law_pool" tPool f fd) (T : Txt K mg CL CR CF CS) : FnOk P w K mg base CX0 1 f fd ["_law_script"] (spPool K) := by
  refine F.ok scPool (fun vs H Q E h => ?_) (fun cdv A outer s H vs Q E hr h => ?_)
  · obtain ⟨a, ns, rfl, _⟩ := h
    rfl
  · obtain ⟨a, ns, rfl, hq, hl, k⟩ := h
    refine ⟨_, pss_one (ps_ret (pe_lst (pa_cons
      (pe_lc (own := [("_law_cell", 1)]) (g := gName 1) (tt := tYes) rfl scPool.nd (pi_list (pv 0)) (blkOk_by (N := ["_law_script", "_law_cell"]) (sc := defScope tPool) (by decide +kernel))
        (fun _ _ _ _ _ => pg_name (i := 1) scPool.nd rfl (Or.inl rfl)) (fun _ _ _ _ _ => pts_nil) (fun _ _ _ _ _ => pe_callTy call_int1 (by rfl) T.int bInt (pa_cons (pv 1) pa_nil)))
      (pa_cons pe_int (pa_cons pe_int (pa_cons pe_int (pa_cons (pe_un un_neg pe_int) pa_nil))))))), ?_⟩
    refine ⟨_, rfl, a, rfl, ⟨_, hq⟩, fun D hD => ?_⟩
    have s0 : Same H (upd H D (.lst [])) := same_new hD
    refine lc_list (K := K) (a := a) (xs := ns.map V.int) (fun i H' => Same H H' ∧ H' D = some (.lst ((ns.take i).map V.int))) ⟨s0, upd_same⟩ (fun i H' _ h => h.1.seq hq) ?_ ?_
    · rintro i y H' hi ⟨s1, e1⟩
      have hi2 : ∃ z, ns[i]? = some z ∧ y = V.int z := by
        rw [List.getElem?_map] at hi
        cases e : ns[i]? with
        | none => rw [e] at hi; cases hi
        | some z => rw [e] at hi; exact ⟨z, rfl, (Option.some.inj hi).symm⟩
      obtain ⟨z, hz, rfl⟩ := hi2
      have hlt : i < ns.length := (List.getElem?_eq_some_iff.mp hz).1
      refine ⟨rfl, ?_⟩
      refine yes_if ?_
      refine ⟨_, rfl, .inl ⟨_, rfl, _, e1, ?_, ?_, ?_⟩⟩
      · rw [List.length_map, List.length_take]
        exact small1000 (by omega)
      · intro b o e
        have hb : b ≠ D := ne_of_none e hD
        rw [upd_ne hb]
        exact s1 _ _ e
      · rw [upd_same, List.take_add_one, hz, List.map_append]
        rfl
    · rintro H' ⟨s1, e1⟩
      rw [List.length_map, List.take_length] at e1
      refine ⟨_, rfl, by show 5 ≤ sizeLine; decide, fun p hp => ?_⟩
      have hDp : D ≠ p := ne_of_none e1 hp
      have hHp : H p = none := s1.free hp
      exact k _ p D (s1.trans (same_new hp)) hHp ⟨⟨0, 0, 0, -1, upd_same, Int.le_refl 0⟩, (upd_ne hDp).trans e1, hDp, hl⟩
/-! ### a draw -/
theorem scDraw : FnScope ["_law_pool_here", "_law_many", "_law_cells", "_law_cell", "_law_told", "_law_last"] ["_law_pool_here", "_law_many"] (defScope tDraw) := ⟨rfl, rfl, rfl, by decide +kernel, rfl, by decide +kernel, by decide +kernel⟩
theorem ok_draw (F : Fun K "_law_draw" "_law_draw" tDraw f fd) (T : Txt K mg CL CR CF CS) (D : Def1 P w K mg base 1 "_law_mixed" ["_law_number", "_law_place", "_law_many"] spMixed) : FnOk P w K mg base CX0 2 f fd ["_law_pool_here", "_law_many"] spDraw := by
  refine F.ok scDraw (fun vs H Q E h => ?_) (fun cdv A outer s H vs Q E hr h => ?_)
  · obtain ⟨c, p, ns, m, rfl, _⟩ := h
    rfl
  · obtain ⟨c, p, ns, m, rfl, hp, hm, hm2, kk⟩ := h
    obtain ⟨⟨i, b, k, z, ep, hi⟩, ec, nc, hl⟩ := id hp
    have nd := scDraw.nd
    refine ⟨_, pss_cons (ps_set (i := 2) nd rfl (Or.inl rfl) (pe_ix ix_list (pv 0) pe_int (fun _ _ => rfl)))
      (pss_cons (ps_asg (pe_op op_add (pe_ix ix_list (pv 0) pe_int (fun _ _ => rfl)) pe_int) (pg_sub (pv 0) pe_int set_list))
      (pss_cons (ps_if (pt_cmpR op_ge (pe_ix ix_list (pv 0) pe_int (fun _ _ => rfl)) (pe_callB call_len_seq (by rfl) T.len bLen (pa_cons (pv 2) pa_nil)) (nomark _))
        (pss_one (ps_ret (call1 D hr (pa_cons (pe_op op_add (pe_op op_mul (pe_ix ix_list (pv 0) pe_int (fun _ _ => rfl)) pe_int) (pe_callB call_len_seq (by rfl) T.len bLen (pa_cons (pv 2) pa_nil)))
          (pa_cons (pe_ix ix_list (pv 0) pe_int (fun _ _ => rfl)) (pa_cons (pv 1) pa_nil)))))) pss_nil)
      (pss_cons (ps_set (i := 3) nd rfl (Or.inl rfl) (pe_ix ix_list (pv 2) (pe_ix ix_list (pv 0) pe_int (fun _ _ => rfl)) (fun _ _ => rfl)))
      (pss_cons (ps_asg (pe_op op_add (pe_ix ix_list (pv 0) pe_int (fun _ _ => rfl)) pe_int) (pg_sub (pv 0) pe_int set_list))
      (C8.pss_cut (ps_if (PW.pt (pw_and (pt_cmpR op_lt (pe_ix ix_list (pv 0) pe_int (fun _ _ => rfl)) pe_int (nomark _)) (pw_and1 (pt_cmpR op_ge (pv 3) (pe_op op_pow pe_int pe_int) (nomark _)))))
        (pss_one (ps_asg (pv 3) (pg_sub (pv 0) pe_int set_list))) pss_nil)
      (C8.pss_cut (ps_if (pt_cmpR op_lt (pe_ix ix_list (pv 0) pe_int (fun _ _ => rfl)) pe_int (nomark _))
        (pss_cons (ps_set (i := 4) nd rfl (Or.inl rfl) (call1 D hr (pa_cons (pv 3) (pa_cons (pe_ix ix_list (pv 0) pe_int (fun _ _ => rfl)) (pa_cons (pv 1) pa_nil))))) (pss_one (ps_set (i := 5) nd rfl (Or.inl rfl) pe_int)))
        (pss_cons (ps_set (i := 4) nd rfl (Or.inl rfl) (pe_op op_mod (pe_callTy call_int1 (by rfl) T.int bInt (pa_cons (pe_ix ix_list (pv 0) pe_int (fun _ _ => rfl)) pa_nil)) (pv 1)))
          (pss_cons (ps_asg (pe_op op_fdiv (pe_ix ix_list (pv 0) pe_int (fun _ _ => rfl)) (pv 1)) (pg_sub (pv 0) pe_int set_list)) (pss_one (ps_set (i := 5) nd rfl (Or.inl rfl) pe_int)))))
      (C8.pss_cut (ps_if (PW.pt (pw_or (pt_cmpR op_ge (pe_ix ix_list (pv 0) pe_int (fun _ _ => rfl)) (pv 5) (nomark _)) (pw_or1 (pt_cmpR op_eq (pe_ix ix_list (pv 0) pe_int (fun _ _ => rfl)) pe_int (nomark _)))))
        (pss_cons (ps_asg (pe_op op_add (pe_ix ix_list (pv 0) pe_int (fun _ _ => rfl)) pe_int) (pg_sub (pv 0) pe_int set_list)) (pss_cons (ps_asg pe_int (pg_sub (pv 0) pe_int set_list)) (pss_one (ps_asg (pe_un un_neg pe_int) (pg_sub (pv 0) pe_int set_list))))) pss_nil)
      (pss_one (ps_ret (pv 4)))))))))), ?_⟩
    -- cells = pool[0]; pool[3] = pool[3] + 1
    refine ⟨_, rfl, p, _, _, _, rfl, rfl, SqL.of ep, rfl, ?_⟩
    refine ⟨_, rfl, p, _, _, _, rfl, rfl, SqL.of ep, rfl, _, _, rfl, rfl, _, rfl, p, _, _, _, rfl, rfl, ep, rfl, ?_⟩
    have e1 : (upd H p (PO c i b (k + 1) z)) p = some (PO c i b (k + 1) z) := upd_same
    have c1 : ∀ o, (upd H p o) c = some (.lst (ns.map V.int)) := fun o => (upd_ne nc).trans ec
    -- if pool[1] >= len(cells)
    refine ⟨_, rfl, p, _, _, _, rfl, rfl, SqL.of e1, rfl, _, rfl, c, _, rfl, .inl (SqL.of (c1 _)), _, _, rfl, rfl, _, rfl, ?_⟩
    refine ite2 (fun _ => ?_) (fun hc => ?_)
    · refine ⟨_, rfl, p, _, _, _, rfl, rfl, SqL.of e1, rfl, _, _, rfl, rfl, .inr ⟨by decide, by decide⟩, _, rfl, c, _, rfl, .inl (SqL.of (c1 _)), _, _, rfl, rfl, _, rfl, p, _, _, _, rfl, rfl, SqL.of e1, rfl, _, rfl, ?_⟩
      exact ⟨_, _, m, rfl, hm, fun v h0 h1 => kk v _ h0 h1 (PT.of hp hi)⟩
    · have hlt : i < (ns.length : Int) := by
        have hc' : ¬ ((ns.map V.int).length : Int) ≤ i := fun z => hc (decide_eq_true z)
        rw [List.length_map] at hc'
        omega
      obtain ⟨j, rfl⟩ := Int.eq_ofNat_of_zero_le hi
      have hj : j < ns.length := by omega
      have hcell : (ns.map V.int)[j]? = some (V.int ns[j]) := by rw [List.getElem?_map, List.getElem?_eq_getElem hj]; rfl
      -- cell = cells[pool[1]]; pool[2] = pool[2] + 1
      refine ⟨_, rfl, _, rfl, p, _, _, _, rfl, rfl, SqL.of e1, rfl, c, _, _, _, rfl, rfl, SqL.of (c1 _), atI_nat hcell, ?_⟩
      refine ⟨_, rfl, p, _, _, _, rfl, rfl, SqL.of e1, rfl, _, _, rfl, rfl, _, rfl, p, _, _, _, rfl, rfl, e1, rfl, ?_⟩
      rw [upd_upd]
      have e2 : ∀ z, (upd H p (PO c j (b + 1) (k + 1) z)) p = some (PO c j (b + 1) (k + 1) z) := fun z => upd_same
      -- if pool[4] < 0 and cell >= 10 ** 18
      refine ⟨fun σ' H' => ∃ z', σ' = [some (.ref p), some (.int m), some (.ref c), some (.int ns[j]), none, none] ∧ H' = upd H p (PO c j (b + 1) (k + 1) z'), ?_, ?_⟩
      · refine ⟨_, rfl, p, _, _, _, rfl, rfl, SqL.of (e2 _), rfl, _, _, rfl, rfl, _, rfl, ?_⟩
        refine ite2 (fun _ => ?_) (fun _ => ?_)
        · refine ⟨_, rfl, _, _, rfl, rfl, ⟨by decide, by decide, by decide⟩, _, _, rfl, rfl, _, rfl, ?_⟩
          refine ite2 (fun _ => ?_) (fun _ => ?_)
          · refine ⟨_, rfl, _, rfl, p, _, _, _, rfl, rfl, e2 _, rfl, ?_⟩
            exact ⟨ns[j], rfl, by rw [upd_upd]; rfl⟩
          · exact ⟨z, rfl, rfl⟩
        · exact ite2 (fun q => absurd q Bool.false_ne_true) fun _ => ⟨z, rfl, rfl⟩
      rintro σ' H' ⟨z1, rfl, rfl⟩
      -- if pool[4] < 0
      refine ⟨fun σ' H' => ∃ z' told last, σ' = [some (.ref p), some (.int m), some (.ref c), some (.int ns[j]), some (.int told), some (.int last)] ∧ H' = upd H p (PO c j (b + 1) (k + 1) z') ∧ 0 ≤ told ∧ told < m, ?_, ?_⟩
      · refine ⟨_, rfl, p, _, _, _, rfl, rfl, SqL.of (e2 _), rfl, _, _, rfl, rfl, _, rfl, ?_⟩
        refine ite2 (fun _ => ?_) (fun _ => ?_)
        · refine ⟨_, rfl, _, rfl, p, _, _, _, rfl, rfl, SqL.of (e2 _), rfl, _, rfl, ?_⟩
          exact ⟨_, _, m, rfl, hm, fun v h0 h1 => ⟨z1, v, 3, rfl, rfl, h0, h1⟩⟩
        · refine ⟨_, rfl, p, _, _, _, rfl, rfl, SqL.of (e2 _), rfl, .inl ⟨_, rfl, _, rfl, _, _, rfl, rfl, hm, ?_⟩⟩
          refine ⟨_, rfl, p, _, _, _, rfl, rfl, SqL.of (e2 _), rfl, _, rfl, _, _, rfl, rfl, ⟨hm, hm2⟩, _, rfl, p, _, _, _, rfl, rfl, e2 _, rfl, ?_⟩
          exact ⟨_, _, 60, rfl, by rw [upd_upd]; rfl, Int.emod_nonneg _ (Int.ne_of_gt hm), Int.emod_lt_of_pos _ hm⟩
      rintro σ' H' ⟨z2, told, last, rfl, rfl, h0, h1⟩
      -- if pool[2] >= last or pool[4] == 0
      refine ⟨fun σ' H' => σ' = [some (.ref p), some (.int m), some (.ref c), some (.int ns[j]), some (.int told), some (.int last)] ∧ PT c p ns H H', ?_, ?_⟩
      · refine ⟨_, rfl, p, _, _, _, rfl, rfl, SqL.of (e2 _), rfl, _, rfl, _, _, rfl, rfl, _, rfl, ?_⟩
        refine ite2 (fun _ => ?_) (fun _ => ?_)
        · refine iteT ?_
          refine ⟨_, rfl, p, _, _, _, rfl, rfl, SqL.of (e2 _), rfl, _, _, rfl, rfl, _, rfl, p, _, _, _, rfl, rfl, e2 _, rfl, ?_⟩
          refine ⟨_, rfl, p, _, _, _, rfl, rfl, upd_same, rfl, ?_⟩
          refine ⟨_, rfl, _, rfl, p, _, _, _, rfl, rfl, upd_same, rfl, ?_⟩
          refine ⟨rfl, ?_⟩
          rw [upd_upd, upd_upd, upd_upd]
          exact PT.of hp (by omega)
        · refine ⟨_, rfl, p, _, _, _, rfl, rfl, SqL.of (e2 _), rfl, rfl, _, rfl, ?_⟩
          refine ite2 (fun _ => ?_) (fun _ => ?_)
          · refine ⟨_, rfl, p, _, _, _, rfl, rfl, SqL.of (e2 _), rfl, _, _, rfl, rfl, _, rfl, p, _, _, _, rfl, rfl, e2 _, rfl, ?_⟩
            refine ⟨_, rfl, p, _, _, _, rfl, rfl, upd_same, rfl, ?_⟩
            refine ⟨_, rfl, _, rfl, p, _, _, _, rfl, rfl, upd_same, rfl, ?_⟩
            refine ⟨rfl, ?_⟩
            rw [upd_upd, upd_upd, upd_upd]
            exact PT.of hp (by omega)
          · exact ⟨rfl, PT.of hp hi⟩
      rintro σ' H' ⟨rfl, hT⟩
      exact ⟨_, rfl, kk told _ h0 h1 hT⟩
end
end K61
/-! The law's helpers, second part. -/
namespace K61
open PySem L2
section
variable {P : Program} {w : World} {K : PySem.W.Frag} {mg : Str → Option Value} {base : Heap} {f CL CR CF CS : Addr} {fd : FuncData}
theorem scWide : FnScope ["_law_pool_here", "_law_most", "_law_kind", "_law_told"] ["_law_pool_here", "_law_most"] (defScope tWide) := ⟨rfl, rfl, rfl, by decide +kernel, rfl, by decide +kernel, by decide +kernel⟩
theorem ok_wide (F : Fun K "_law_wide" "_law_wide" tWide f fd) (T : Txt K mg CL CR CF CS) (D : Def1 P w K mg base 2 "_law_draw" ["_law_pool_here", "_law_many"] spDraw) : FnOk P w K mg base CX0 3 f fd ["_law_pool_here", "_law_most"] spWide := by
  refine F.ok scWide (fun vs H Q E h => ?_) (fun cdv A outer s H vs Q E hr h => ?_)
  · obtain ⟨c, p, ns, m, rfl, _⟩ := h
    rfl
  · obtain ⟨c, p, ns, m, rfl, hp, hm, kk⟩ := h
    have nd := scWide.nd
    refine ⟨_, pss_cons (ps_set (i := 2) nd rfl (Or.inl rfl) (call1 D hr (pa_cons (pv 0) (pa_cons pe_int pa_nil))))
      (pss_cons (ps_if (pt_cmpR op_eq (pv 2) pe_int (nomark _)) (pss_one (ps_ret (pe_op op_mod (pe_callTy call_int1 (by rfl) T.int bInt (pa_cons (call1 D hr (pa_cons (pv 0) (pa_cons pe_int pa_nil))) pa_nil)) (pe_op op_add (pv 1) pe_int)))) pss_nil)
      (pss_cons (ps_if (pt_cmpR op_eq (pv 2) pe_int (nomark _)) (pss_one (ps_ret (pe_op op_mod (pe_callTy call_int1 (by rfl) T.int bInt (pa_cons (call1 D hr (pa_cons (pv 0) (pa_cons pe_int pa_nil))) pa_nil)) (pe_op op_add (pv 1) pe_int)))) pss_nil)
      (pss_cons (ps_set (i := 3) nd rfl (Or.inl rfl) (pe_op op_add (pe_op op_add
          (pe_op op_mul (call1 D hr (pa_cons (pv 0) (pa_cons (pe_op op_pow pe_int pe_int) pa_nil))) (pe_op op_pow pe_int pe_int))
          (pe_op op_mul (call1 D hr (pa_cons (pv 0) (pa_cons (pe_op op_pow pe_int pe_int) pa_nil))) (pe_op op_pow pe_int pe_int)))
          (call1 D hr (pa_cons (pv 0) (pa_cons (pe_op op_pow pe_int pe_int) pa_nil)))))
      (C8.pss_cut (ps_if (pt_cmpR op_eq (pv 2) pe_int (nomark _)) (pss_one (ps_set (i := 3) nd rfl (Or.inl rfl) (pe_op op_add (pe_op op_mul (pv 3) (pe_op op_pow pe_int pe_int))
          (call1 D hr (pa_cons (pv 0) (pa_cons (pe_op op_pow pe_int pe_int) pa_nil)))))) pss_nil)
      (pss_one (ps_ret (pe_op op_mod (pe_callTy call_int1 (by rfl) T.int bInt (pa_cons (pv 3) pa_nil)) (pe_op op_add (pv 1) pe_int)))))))), ?_⟩
    have pw9 : (0 : Int) < (10 : Int) ^ (9 : Int).toNat ∧ (10 : Int) ^ (9 : Int).toNat < 1073741824 := by decide
    have m1 : (0 : Int) < m + 1 := by omega
    have fin : ∀ (x : Int) H', PT c p ns H H' → Q (.int (x % (m + 1))) H' := fun x H' hT => kk _ _ (Int.emod_nonneg _ (Int.ne_of_gt m1)) (by have := Int.emod_lt_of_pos x m1; omega) hT
    refine ⟨_, rfl, c, p, ns, _, rfl, hp, by decide, by decide, fun v1 H1 a1 b1 T1 => ?_⟩
    refine ⟨_, rfl, rfl, _, rfl, ?_⟩
    refine ite2 (fun _ => ?_) (fun _ => ?_)
    · refine ⟨_, rfl, c, p, ns, _, rfl, T1.at_, by decide, by decide, fun v2 H2 a2 b2 T2 => ?_⟩
      exact .inl ⟨_, rfl, _, rfl, _, _, rfl, rfl, _, _, rfl, rfl, m1, fin _ _ (T1.trans T2)⟩
    refine ⟨_, rfl, rfl, _, rfl, ?_⟩
    refine ite2 (fun _ => ?_) (fun _ => ?_)
    · refine ⟨_, rfl, c, p, ns, _, rfl, T1.at_, by decide, by decide, fun v2 H2 a2 b2 T2 => ?_⟩
      exact .inl ⟨_, rfl, _, rfl, _, _, rfl, rfl, _, _, rfl, rfl, m1, fin _ _ (T1.trans T2)⟩
    refine ⟨_, rfl, _, _, rfl, rfl, ⟨by decide, by decide, by decide⟩, c, p, ns, _, rfl, T1.at_, pw9.1, pw9.2, fun v2 H2 a2 b2 T2 => ?_⟩
    refine ⟨_, _, rfl, rfl, ⟨by decide, by decide, by decide⟩, _, _, rfl, rfl, .inl ⟨by omega, by omega⟩, ?_⟩
    refine ⟨_, rfl, _, _, rfl, rfl, ⟨by decide, by decide, by decide⟩, c, p, ns, _, rfl, T2.at_, pw9.1, pw9.2, fun v3 H3 a3 b3 T3 => ?_⟩
    refine ⟨_, _, rfl, rfl, ⟨by decide, by decide, by decide⟩, _, _, rfl, rfl, .inl ⟨by omega, by omega⟩, _, _, rfl, rfl, ?_⟩
    refine ⟨_, rfl, _, _, rfl, rfl, ⟨by decide, by decide, by decide⟩, c, p, ns, _, rfl, T3.at_, pw9.1, pw9.2, fun v4 H4 a4 b4 T4 => ?_⟩
    refine ⟨_, _, rfl, rfl, ?_⟩
    have T14 : PT c p ns H H4 := T1.trans (T2.trans (T3.trans T4))
    refine ⟨fun σ' H' => ∃ x, σ' = [some (.ref p), some (.int m), some (.int v1), some (.int x)] ∧ PT c p ns H H', ?_, ?_⟩
    · refine ⟨_, rfl, rfl, _, rfl, ?_⟩
      refine ite2 (fun _ => ?_) (fun _ => ?_)
      · refine ⟨_, rfl, _, _, rfl, rfl, ⟨by decide, by decide, by decide⟩, _, _, rfl, rfl, .inr ⟨by decide, by decide⟩, ?_⟩
        refine ⟨_, rfl, _, _, rfl, rfl, ⟨by decide, by decide, by decide⟩, c, p, ns, _, rfl, T4.at_, pw9.1, pw9.2, fun v5 H5 a5 b5 T5 => ?_⟩
        exact ⟨_, _, rfl, rfl, _, rfl, T14.trans T5⟩
      · exact ⟨_, rfl, T14⟩
    rintro σ' H' ⟨x, rfl, hT⟩
    exact ⟨_, rfl, .inl ⟨_, rfl, _, rfl, _, _, rfl, rfl, _, _, rfl, rfl, m1, fin _ _ hT⟩⟩
theorem scPower : FnScope ["_law_many", "_law_found", "_law_k"] ["_law_many"] (defScope tPower) := ⟨rfl, rfl, rfl, by decide +kernel, rfl, by decide +kernel, by decide +kernel⟩
theorem ok_power (F : Fun K "_law_power" "_law_power" tPower f fd) (T : Txt K mg CL CR CF CS) : FnOk P w K mg base CX0 1 f fd ["_law_many"] spPower := by
  refine F.ok scPower (fun vs H Q E h => ?_) (fun cdv A outer s H vs Q E hr h => ?_)
  · obtain ⟨n, rfl, _⟩ := h
    rfl
  · obtain ⟨n, rfl, h0, h1, k⟩ := h
    have nd := scPower.nd
    refine ⟨_, pss_cons (ps_set (i := 1) nd rfl (Or.inl rfl) pe_int)
      (pss_cons (ps_for PassesOwn.never rfl (pi_range1 rfl T.range (pa_cons (pv 0) pa_nil)) (pg_name (i := 2) nd rfl (Or.inl rfl)) (pss_one (ps_set (i := 1) nd rfl (Or.inl rfl) (pe_op op_mul (pv 1) pe_int))))
      (pss_one (ps_ret (pv 1)))), ?_⟩
    refine ⟨_, rfl, n, rfl, by omega, by omega, ?_⟩
    refine for_range (n := n.toNat) (fun i σ H' => H' = H ∧ ∃ v : Option V, σ = [some (.int n), some (.int ((2 : Int) ^ i)), v]) ⟨rfl, none, rfl⟩ ?_ ?_
    · rintro i σ H' hi ⟨rfl, v, rfl⟩
      refine ⟨_, rfl, _, _, rfl, rfl, .inr ⟨by decide, by decide⟩, rfl, some (.int (0 + (i : Int))), ?_⟩
      rw [Int.pow_succ]
      rfl
    · rintro σ H' ⟨rfl, v, rfl⟩
      exact ⟨_, rfl, k⟩
theorem scDue : FnScope ["_law_passed", "_law_total", "_law_n", "_law_modulus", "_law_believed", "_law_lost", "_law_place"] ["_law_passed", "_law_total", "_law_n", "_law_modulus"] (defScope tDue) := ⟨rfl, rfl, rfl, by decide +kernel, rfl, by decide +kernel, by decide +kernel⟩
theorem ok_due (F : Fun K "_law_due" "_law_due" tDue f fd) (T : Txt K mg CL CR CF CS) : FnOk P w K mg base CX0 1 f fd ["_law_passed", "_law_total", "_law_n", "_law_modulus"] spDue := by
  refine F.ok scDue (fun vs H Q E h => ?_) (fun cdv A outer s H vs Q E hr h => ?_)
  · obtain ⟨q, t, n, m, rfl, _⟩ := h
    rfl
  · obtain ⟨q, t, n, m, rfl, hn, hm, k1, k2⟩ := h
    have nd := scDue.nd
    refine ⟨_, pss_cons (ps_set (i := 4) nd rfl (Or.inl rfl) (pe_op op_mod (pe_callTy call_int1 (by rfl) T.int bInt (pa_cons (pe_op op_sub (pv 1) (pv 0)) pa_nil)) (pv 3)))
      (pss_cons (ps_if (pt_cmpR op_eq (pv 4) pe_int (nomark _)) (pss_one (ps_ret pe_non)) pss_nil)
      (pss_cons (ps_set (i := 5) nd rfl (Or.inl rfl) pe_int)
      (C8.pss_cut (ps_if (pt_cmpR op_gt (pv 4) (pv 2) (nomark _)) (pss_one (ps_set (i := 5) nd rfl (Or.inl rfl) (pe_op op_sub (pv 4) (pv 2)))) pss_nil)
      (pss_cons (ps_set (i := 6) nd rfl (Or.inl rfl) (pe_op op_add (pv 0) (pv 5)))
      (pss_one (ps_ret (pe_tup (pa_cons (pv 5) (pa_cons (pe_op op_sub (pv 1) (pe_op op_mod (pe_callTy call_int1 (by rfl) T.int bInt (pa_cons (pe_op op_sub (pe_op op_sub (pv 1) pe_int) (pv 6)) pa_nil)) (pv 2))) pa_nil))))))))), ?_⟩
    refine ⟨_, rfl, _, rfl, _, _, rfl, rfl, .inl ⟨_, rfl, _, rfl, _, _, rfl, rfl, hm, ?_⟩⟩
    refine ⟨_, rfl, rfl, _, rfl, ?_⟩
    by_cases h0 : (t - q) % m = 0
    · rw [decide_eq_true (show V.int ((t - q) % m) = V.int 0 by rw [h0])]
      exact iteT (k1 (due_none h0))
    · rw [decide_eq_false (show ¬ V.int ((t - q) % m) = V.int 0 from fun z => h0 (V.int.inj z))]
      refine iteF ?_
      have kv := k2 _ _ (due_some h0)
      refine ⟨fun σ' H' => H' = H ∧ σ' = [some (.int q), some (.int t), some (.int n), some (.int m), some (.int ((t - q) % m)), some (.int (lostOf n ((t - q) % m))), none], ?_, ?_⟩
      · refine ⟨_, rfl, _, rfl, _, _, rfl, rfl, _, rfl, ?_⟩
        unfold lostOf
        by_cases hc : (t - q) % m > n
        · rw [if_pos hc, decide_eq_true (show n < (t - q) % m from hc)]
          exact iteT ⟨_, rfl, _, rfl, _, _, rfl, rfl, rfl, rfl⟩
        · rw [if_neg hc, decide_eq_false (show ¬ n < (t - q) % m from hc)]
          exact iteF ⟨rfl, rfl⟩
      rintro σ' H' ⟨rfl, rfl⟩
      refine ⟨_, rfl, _, rfl, _, _, rfl, rfl, ?_⟩
      refine ⟨_, rfl, _, rfl, _, rfl, _, _, rfl, rfl, _, rfl, _, _, rfl, rfl, .inl ⟨_, rfl, _, rfl, _, _, rfl, rfl, hn, _, _, rfl, rfl, ?_⟩⟩
      exact ⟨by show 2 ≤ sizeLine; decide, kv⟩
theorem scWalk : FnScope ["_law_passed", "_law_total", "_law_n", "_law_modulus", "_law_limit", "_law_found", "_law_k", "_law_told"] ["_law_passed", "_law_total", "_law_n", "_law_modulus", "_law_limit"] (defScope tWalk) := ⟨rfl, rfl, rfl, by decide +kernel, rfl, by decide +kernel, by decide +kernel⟩
theorem ok_walk (F : Fun K "_law_walk" "_law_walk" tWalk f fd) (T : Txt K mg CL CR CF CS) (D : Def1 P w K mg base 1 "_law_due" ["_law_passed", "_law_total", "_law_n", "_law_modulus"] spDue) :
    FnOk P w K mg base CX0 2 f fd ["_law_passed", "_law_total", "_law_n", "_law_modulus", "_law_limit"] spWalk := by
  refine F.ok scWalk (fun vs H Q E h => ?_) (fun cdv A outer s H vs Q E hr h => ?_)
  · obtain ⟨q, t, n, m, k, rfl, _⟩ := h
    rfl
  · obtain ⟨q, t, n, m, k, rfl, hn, hm, hk0, hk1, kk⟩ := h
    have nd := scWalk.nd
    refine ⟨_, pss_cons (ps_set (i := 5) nd rfl (Or.inl rfl) (pe_lst pa_nil))
      (pss_cons (ps_for PassesOwn.never rfl (pi_range1 rfl T.range (pa_cons (pv 4) pa_nil)) (pg_name (i := 6) nd rfl (Or.inl rfl))
        (pss_cons (ps_set (i := 7) nd rfl (Or.inl rfl) (call1 D hr (pa_cons (pv 0) (pa_cons (pv 1) (pa_cons (pv 2) (pa_cons (pv 3) pa_nil))))))
        (pss_cons (ps_if (pt_cmpR op_isN (pv 7) pe_non (nomark _)) (pss_one (ps_ret (pe_tup (pa_cons (pv 5) (pa_cons (pv 0) pa_nil))))) pss_nil)
        (pss_cons (ps_expr (pe_bm PySem.F.plainAttrs_list PySem.F.slot_list_append PySem.F.type_list_append mt_append (pv 5) (pa_cons (pv 7) pa_nil)))
        (pss_one (ps_set (i := 0) nd rfl (Or.inl rfl) (pe_op op_add (pe_op op_add (pv 0) (pe_ix ix_tup (pv 7) pe_int (fun _ _ => rfl))) pe_int)))))))
      (pss_one (ps_ret (pe_tup (pa_cons (pv 5) (pa_cons (pv 0) pa_nil)))))), ?_⟩
    refine ⟨Nat.zero_le _, fun l hl => ?_⟩
    refine ⟨_, rfl, k, rfl, by omega, by omega, ?_⟩
    refine for_range (n := k.toNat) (fun i σ H' => ∃ (qi : Int) (ys : List (Int × Int)) (rs : List V) (v6 v7 : Option V), σ = [some (.int qi), some (.int t), some (.int n), some (.int m), some (.int k), some (.ref l), v6, v7] ∧
        Same H H' ∧ H' l = some (.lst rs) ∧ TupsAt H' rs ys ∧ rs.length ≤ i ∧ (reads n m t k.toNat q) = (ys ++ (reads n m t (k.toNat - i) qi).1, (reads n m t (k.toNat - i) qi).2))
      ⟨q, [], [], none, none, rfl, same_new hl, upd_same, .nil, Nat.zero_le _, rfl⟩ ?_ ?_
    · rintro i σ H' hi ⟨qi, ys, rs, v6, v7, rfl, s1, e1, ta, hlen, er⟩
      obtain ⟨j, hj⟩ : ∃ j, k.toNat - i = j + 1 := ⟨k.toNat - i - 1, by omega⟩
      have hj2 : k.toNat - (i + 1) = j := by omega
      rw [hj] at er
      refine ⟨_, rfl, _, rfl, _, rfl, _, rfl, qi, t, n, m, rfl, hn, hm, fun hd => ?_, fun lo v hd p hp => ?_⟩
      · refine ⟨_, rfl, rfl, _, rfl, iteT ?_⟩
        have er2 : reads n m t k.toNat q = (ys, qi) := by
          rw [er]
          unfold reads
          rw [hd]
          show (ys ++ [], qi) = (ys, qi)
          rw [List.append_nil]
        refine ⟨_, rfl, _, rfl, by show 2 ≤ sizeLine; decide, fun p hp => ?_⟩
        have s2 := s1.trans (same_new (o := .tup [.ref l, .int qi]) hp)
        have nlp : l ≠ p := ne_of_none e1 hp
        refine kk _ p l rs s2 (s1.free hp) ?_ ((upd_ne nlp).trans e1) ?_
        · rw [er2]
          exact upd_same
        · rw [er2]
          exact ta.same fun a xs e => same_new hp _ _ e
      · have nlp : l ≠ p := ne_of_none e1 hp
        refine ⟨_, rfl, rfl, _, rfl, iteF ?_⟩
        refine ⟨_, rfl, .inl ⟨rfl, _, Or.inl (Or.inl ((upd_ne nlp).trans e1))⟩, _, rfl, l, _, _, rfl, rfl, (upd_ne nlp).trans e1, small1000 (by omega), ?_⟩
        have npl : p ≠ l := nlp.symm
        refine ⟨_, rfl, _, rfl, p, _, _, _, rfl, rfl, SqT.of ((upd_ne npl).trans upd_same), rfl, _, _, rfl, rfl, _, _, rfl, rfl, ?_⟩
        refine ⟨qi + lo + 1, ys ++ [(lo, v)], rs ++ [.ref p], _, _, rfl, ?_, upd_same, ?_, ?_, ?_⟩
        · intro b o e
          have hb : b ≠ l := ne_of_none e hl
          rw [upd_ne hb]
          exact same_new hp _ _ (s1 _ _ e)
        · refine Paired.snoc ?_ ⟨p, rfl, (upd_ne npl).trans upd_same⟩
          refine ta.same fun a xs e => ?_
          have ha : a ≠ l := ne_of e e1 (by intro z; cases z)
          rw [upd_ne ha]
          exact same_new hp _ _ e
        · rw [List.length_append, List.length_singleton]
          omega
        · rw [er, hj2]
          show (ys ++ (reads n m t (j + 1) qi).1, (reads n m t (j + 1) qi).2) = ((ys ++ [(lo, v)]) ++ (reads n m t j (qi + lo + 1)).1, (reads n m t j (qi + lo + 1)).2)
          have e3 : reads n m t (j + 1) qi = ((lo, v) :: (reads n m t j (qi + lo + 1)).1, (reads n m t j (qi + lo + 1)).2) := by
            show (match due n m t qi with
              | none => _
              | some x => _) = _
            rw [hd]
          rw [e3, List.append_assoc]
          rfl
    · rintro σ H' ⟨qi, ys, rs, v6, v7, rfl, s1, e1, ta, hlen, er⟩
      rw [Nat.sub_self] at er
      have er2 : reads n m t k.toNat q = (ys, qi) := by
        rw [er]
        show (ys ++ [], qi) = (ys, qi)
        rw [List.append_nil]
      refine ⟨_, rfl, _, rfl, by show 2 ≤ sizeLine; decide, fun p hp => ?_⟩
      have s2 := s1.trans (same_new (o := .tup [.ref l, .int qi]) hp)
      have nlp : l ≠ p := ne_of_none e1 hp
      refine kk _ p l rs s2 (s1.free hp) ?_ ((upd_ne nlp).trans e1) ?_
      · rw [er2]
        exact upd_same
      · rw [er2]
        exact ta.same fun a xs e => same_new hp _ _ e
theorem scAmount : FnScope ["_law_pool_here", "_law_n", "_law_modulus", "_law_kind"] ["_law_pool_here", "_law_n", "_law_modulus"] (defScope tAmount) := ⟨rfl, rfl, rfl, by decide +kernel, rfl, by decide +kernel, by decide +kernel⟩
theorem ok_amount (F : Fun K "_law_amount" "_law_amount" tAmount f fd) (D : Def1 P w K mg base 2 "_law_draw" ["_law_pool_here", "_law_many"] spDraw) (D2 : Def1 P w K mg base 3 "_law_wide" ["_law_pool_here", "_law_most"] spWide) :
    FnOk P w K mg base CX0 4 f fd ["_law_pool_here", "_law_n", "_law_modulus"] spAmount := by
  refine F.ok scAmount (fun vs H Q E h => ?_) (fun cdv A outer s H vs Q E hr h => ?_)
  · obtain ⟨c, p, ns, n, m, rfl, _⟩ := h
    rfl
  · obtain ⟨c, p, ns, n, m, rfl, hp, n0, n1, m0, m1, kk⟩ := h
    have nd := scAmount.nd
    have hr2 : Room 2 _ := hr.mono (by decide)
    refine ⟨_, pss_cons (ps_set (i := 3) nd rfl (Or.inl rfl) (call1 D hr2 (pa_cons (pv 0) (pa_cons pe_int pa_nil))))
      (pss_cons (ps_if (pt_cmpR op_eq (pv 3) pe_int (nomark _)) (pss_one (ps_ret (pe_op op_add (pe_op op_mul (pv 2) (call1 D hr2 (pa_cons (pv 0) (pa_cons pe_int pa_nil)))) (pe_op op_mul (pv 1) (call1 D hr2 (pa_cons (pv 0) (pa_cons pe_int pa_nil))))))) pss_nil)
      (pss_cons (ps_if (pt_cmpR op_eq (pv 3) pe_int (nomark _)) (pss_one (ps_ret (call1 D2 hr (pa_cons (pv 0) (pa_cons (pe_op op_pow pe_int pe_int) pa_nil))))) pss_nil)
      (pss_one (ps_ret (call1 D hr2 (pa_cons (pv 0) (pa_cons pe_int pa_nil))))))), ?_⟩
    refine ⟨_, rfl, c, p, ns, _, rfl, hp, by decide, by decide, fun v1 H1 a1 b1 T1 => ?_⟩
    refine ⟨_, rfl, rfl, _, rfl, ?_⟩
    refine ite2 (fun _ => ?_) (fun _ => ?_)
    · refine ⟨_, rfl, _, rfl, c, p, ns, _, rfl, T1.at_, by decide, by decide, fun v2 H2 a2 b2 T2 => ?_⟩
      refine ⟨_, _, rfl, rfl, .inr ⟨by omega, by omega⟩, ?_⟩
      refine ⟨_, rfl, _, rfl, c, p, ns, _, rfl, T2.at_, by decide, by decide, fun v3 H3 a3 b3 T3 => ?_⟩
      refine ⟨_, _, rfl, rfl, .inr ⟨by omega, by omega⟩, _, _, rfl, rfl, ?_⟩
      have x1 : 0 ≤ m * v2 := Int.mul_nonneg m0 a2
      have x2 : 0 ≤ n * v3 := Int.mul_nonneg n0 a3
      have y1 : m * v2 ≤ m * 2 := Int.mul_le_mul_of_nonneg_left (by omega) m0
      have y2 : n * v3 ≤ n * 1 := Int.mul_le_mul_of_nonneg_left (by omega) n0
      exact kk _ _ (by omega) (by omega) (T1.trans (T2.trans T3))
    refine ⟨_, rfl, rfl, _, rfl, ?_⟩
    refine ite2 (fun _ => ?_) (fun _ => ?_)
    · refine ⟨_, rfl, _, _, rfl, rfl, ⟨by decide, by decide, by decide⟩, c, p, ns, _, rfl, T1.at_, by decide, fun v2 H2 a2 b2 T2 => ?_⟩
      exact kk _ _ a2 b2 (T1.trans T2)
    · refine ⟨_, rfl, c, p, ns, _, rfl, T1.at_, by decide, by decide, fun v2 H2 a2 b2 T2 => ?_⟩
      exact kk _ _ a2 (by omega) (T1.trans T2)
end
end K61
/-! The law's setting: what it draws, the scheme that it makes. -/
namespace K61
open PySem L2
/-- an instance of the class at C is made by the def ps, promise sp; all written -/
structure Mak1 (P : Program) (w : World) (K : PySem.W.Frag) (mg : Str → Option Value) (base : Heap) (k : Nat) (C : Addr) (ps : List Str) (sp : Sp) : Prop where
  ex : ∃ (f : Addr) (fd : FuncData), FnOk P w K mg base CX0 k f fd ps sp ∧ Mk K C f ∧ Binds K fd ps []
/-- the same, with keywords ks behind n positional values (self among them), all written, in the parameters' order -/
structure MakK (P : Program) (w : World) (K : PySem.W.Frag) (mg : Str → Option Value) (base : Heap) (k : Nat) (C : Addr) (ps : List Str) (n : Nat) (ks : List Str) (sp : Sp) : Prop where
  ex : ∃ (f : Addr) (fd : FuncData), FnOk P w K mg base CX0 k f fd ps sp ∧ Mk K C f ∧ KBn K fd ps n ks (fun us ws => us ++ ws) (fun vs zs => vs ++ zs)
section
variable {X : Cx} {k n : Nat} {x : Str} {ps ks : List Str} {sp : Sp} {p pos : Pos} {e : Expr} {es : List Expr} {kws : List Keyword} {t tk : TA} {C : Addr}
theorem make1 (D : Mak1 X.prog X.w X.K X.mg X.base k C ps sp) (hr : Room (k + 1) X.A) (hm : X.mg x = some (.ref C)) (ha : PA X (e :: es) t) (hg : Gl X x := by rfl)
    (hd : (x == ("__debug__" : Str)) = false := by decide) (he : starEach (e :: es) X.env = (false, eval e X.env) :: starEach es X.env := by rfl) (hp : (backTo pos (starEach es X.env)).any (·.1) = false := by rfl) :
    PE X (.Call (.Name x p) (e :: es) [] pos) (tMake C sp [] E0 t) := by
  obtain ⟨f, fd, F, M, hb⟩ := D.ex
  exact pe_make M F hr hg hm hb .nil pass0 ha hd he hp
theorem makeK0 (D : MakK X.prog X.w X.K X.mg X.base k C ps 1 ks sp) (hr : Room (k + 1) X.A) (hm : X.mg x = some (.ref C)) (hkw : PK X kws tk) (hg : Gl X x := by rfl)
    (hall : (backToKw pos (keywordEach kws X.env)).all (·.1.isSome) = true := by rfl) (hks : (backToKw pos (keywordEach kws X.env)).filterMap (·.1) = ks := by rfl) (hd : (x == ("__debug__" : Str)) = false := by decide)
    (hp : ((backTo pos (starEach [] X.env)).any (·.1) || (backToKw pos (keywordEach kws X.env)).any (·.1.isNone)) = false := by rfl) :
    PE X (.Call (.Name x p) [] kws pos) (tMakeK C 0 ks.length sp (fun vs zs => vs ++ zs) E0 tNil tk) := by
  obtain ⟨f, fd, F, M, hb⟩ := D.ex
  exact pe_makeK0 M F hr hg hm hb pass0 hkw hall hks hd hp
theorem makeK (D : MakK X.prog X.w X.K X.mg X.base k C ps (n + 1) ks sp) (hr : Room (k + 1) X.A) (hm : X.mg x = some (.ref C)) (ha : PA X (e :: es) t) (hkw : PK X kws tk) (hg : Gl X x := by rfl)
    (hall : (backToKw pos (keywordEach kws X.env)).all (·.1.isSome) = true := by rfl) (hks : (backToKw pos (keywordEach kws X.env)).filterMap (·.1) = ks := by rfl) (hd : (x == ("__debug__" : Str)) = false := by decide)
    (he : starEach (e :: es) X.env = (false, eval e X.env) :: starEach es X.env := by rfl) (hp : ((backTo pos (starEach (e :: es) X.env)).any (·.1) || (backToKw pos (keywordEach kws X.env)).any (·.1.isNone)) = false := by rfl) :
    PE X (.Call (.Name x p) (e :: es) kws pos) (tMakeK C n ks.length sp (fun vs zs => vs ++ zs) E0 t tk) := by
  obtain ⟨f, fd, F, M, hb⟩ := D.ex
  exact pe_makeK M F hr hg hm hb pass0 ha hkw hall hks hd he hp
end
/-- a new instance is made: all that was tracked is kept -/
theorem same_made {H : Hp} {x dx C : Addr} {fs : List (Str × V)} (nx : H x = none) (nd : H dx = none) : Same H (upd (upd (upd H dx (.own x)) x (.ins C dx [])) x (.ins C dx fs)) := fun b o e => by
  have h1 : b ≠ x := ne_of_none e nx
  have h2 : b ≠ dx := ne_of_none e nd
  rw [upd_ne h1, upd_ne h1, upd_ne h2]
  exact e
/-! ### what is drawn -/
def TurnV (H : Hp) (v : V) (n m : Int) : Prop := (∃ w, v = .int w ∧ 1 ≤ w ∧ w ≤ 100 ∧ m = 2 ^ w.toNat) ∨ (∃ a p q, v = .ref a ∧ H a = some (.tup [.int p, .int q]) ∧ 0 ≤ p ∧ p ≤ 4 ∧ 0 ≤ q ∧ q ≤ 20 ∧ m = p * n + q)
theorem TurnV.same {H H' : Hp} {v : V} {n m : Int} (h : TurnV H v n m) (s : Same H H') : TurnV H' v n m := by
  rcases h with h | ⟨a, p, q, e, ea, r⟩
  · exact .inl h
  · exact .inr ⟨a, p, q, e, s _ _ ea, r⟩
def BrimV (H : Hp) (b : Addr) : Prop := (∃ z : Str, H b = some (.tup [.str z]) ∧ z ∈ (["next", "note"] : List Str)) ∨
  (∃ (z c : Str) (a : Addr) (p q : Int), H b = some (.tup [.str z, .str c, .ref a]) ∧ z ∈ (["diff", "count"] : List Str) ∧ c ∈ (["=", ">="] : List Str) ∧ H a = some (.tup [.int p, .int q]) ∧ 0 ≤ p ∧ p ≤ 4 ∧ -20 ≤ q ∧ q ≤ 20)
/-- tuples stay -/
def KT (H H' : Hp) : Prop := ∀ a xs, H a = some (.tup xs) → H' a = some (.tup xs)
theorem BrimV.kt {H H' : Hp} {b : Addr} (h : BrimV H b) (s : KT H H') : BrimV H' b := by
  rcases h with ⟨z, e, r⟩ | ⟨z, c, a, p, q, e, r1, r2, ea, r⟩
  · exact .inl ⟨z, s _ _ e, r⟩
  · exact .inr ⟨z, c, a, p, q, s _ _ e, r1, r2, s _ _ ea, r⟩
structure RowV (H : Hp) (r : Addr) (n m : Int) : Prop where
  ex : ∃ (turn : V) (rule bare : Str) (brim : Addr), H r = some (.tup [turn, .str rule, .str bare, .ref brim]) ∧ TurnV H turn n m ∧ rule ∈ (["rest", "off", "mask"] : List Str) ∧ (rule = "mask" → ∃ w, turn = .int w) ∧ (rule = "off" → m ≤ 2 * n) ∧
    bare ∈ (["same", "count", "note"] : List Str) ∧ BrimV H brim
  n1 : 1 ≤ n
  n2 : n ≤ 10 ^ 30
  m1 : 1 ≤ m
  nm : m % n = 0
def spMade (CF CS : Addr) : Sp := fun vs H Q _ => ∃ r n m, vs = [.ref r, .str "over"] ∧ RowV H r n m ∧ ∀ H' a, Same H H' → LogSch CF CS H' a n m → Q (.ref a) H'
section
variable {P : Program} {w : World} {K : PySem.W.Frag} {mg : Str → Option Value} {base : Heap} {f CL CR CF CS : Addr} {fd : FuncData}
theorem scMade : FnScope ["_law_row", "_law_manner", "_law_turn", "_law_rule", "_law_bare", "_law_brim"] ["_law_row", "_law_manner"] (defScope tMade) := ⟨rfl, rfl, rfl, by decide +kernel, rfl, by decide +kernel, by decide +kernel⟩
theorem ok_made (F : Fun K "_law_made" "_law_made" tMade f fd) (T : Txt K mg CL CR CF CS) (D : Mak1 P w K mg base 2 CF ["self", "slope", "base"] (spFmInit CF))
    (D2 : MakK P w K mg base 4 CS ["self", "wrap", "slot", "empty", "full", "when"] 1 ["wrap", "slot", "empty", "full", "when"] (spScInit CF CS)) : FnOk P w K mg base CX0 6 f fd ["_law_row", "_law_manner"] (spMade CF CS) := by
  refine F.ok scMade (fun vs H Q E h => ?_) (fun cdv A outer s H vs Q E hr h => ?_)
  · obtain ⟨r, n, m, rfl, _⟩ := h
    rfl
  · obtain ⟨r, n, m, rfl, ⟨⟨turn, rule, bare, brim, er, ht, hru, hmk, hof, hba, hbr⟩, n1, n2, m1, nm⟩, kk⟩ := h
    have nd := scMade.nd
    have hr3 : Room 3 _ := hr.mono (by decide)
    refine ⟨_, pss_cons (ps_asg (pv 0) (pg_tup rfl (pgs_cons (pg_name (i := 2) nd rfl (Or.inl rfl)) (pgs_cons (pg_name (i := 3) nd rfl (Or.inl rfl)) (pgs_cons (pg_name (i := 4) nd rfl (Or.inl rfl)) (pgs_cons (pg_name (i := 5) nd rfl (Or.inl rfl)) pgs_nil))))))
      (C8.pss_cut (ps_if (pt_val (pe_callB call_isi (by rfl) T.isi bI (pa_cons (pv 2) (pa_cons (pe_bltn (v := .ty "tuple") (by rfl) T.tuple bTup rfl) pa_nil))))
        (pss_one (ps_set (i := 2) nd rfl (Or.inl rfl) (make1 D hr3 T.gF (pa_cons (pe_ix ix_tup (pv 2) pe_int (fun _ _ => rfl)) (pa_cons (pe_ix ix_tup (pv 2) pe_int (fun _ _ => rfl)) pa_nil))))) pss_nil)
      (C8.pss_cut (ps_if (pt_cmpR op_eq (pe_callB call_len_seq (by rfl) T.len bLen (pa_cons (pv 5) pa_nil)) pe_int (nomark _))
        (pss_one (ps_set (i := 5) nd rfl (Or.inl rfl) (pe_tup (pa_cons (pe_ix ix_tup (pv 5) pe_int (fun _ _ => rfl)) (pa_cons (pe_ix ix_tup (pv 5) pe_int (fun _ _ => rfl))
          (pa_cons (make1 D hr3 T.gF (pa_cons (pe_ix ix_tup (pe_ix ix_tup (pv 5) pe_int (fun _ _ => rfl)) pe_int (fun _ _ => rfl)) (pa_cons (pe_ix ix_tup (pe_ix ix_tup (pv 5) pe_int (fun _ _ => rfl)) pe_int (fun _ _ => rfl)) pa_nil))) pa_nil)))))) pss_nil)
      (pss_one (ps_ret (makeK0 D2 hr T.gS (pk_cons (pv 2) (pk_cons (pv 3) (pk_cons (pv 4) (pk_cons (pv 5) (pk_cons (pv 1) pk_nil)))))))))), ?_⟩
    refine ⟨_, rfl, r, _, rfl, SqT.of er, rfl, _, _, rfl, _, _, rfl, _, _, rfl, _, _, rfl, rfl, ?_⟩
    -- the turn
    refine ⟨fun σ' H' => ∃ wv, σ' = [some (.ref r), some (.str "over"), some wv, some (.str rule), some (.str bare), some (.ref brim)] ∧ Same H H' ∧ WrV CF H' wv n m ∧ WpV CF H' wv ∧ (rule = "mask" → ∃ w, wv = .int w), ?_, ?_⟩
    · rcases ht with ⟨wd, rfl, w1, w2, hmw⟩ | ⟨a, p, q, rfl, ea, p0, p4, q0, q1, hmw⟩
      · refine ⟨_, rfl, _, _, _, _, false, rfl, .ty _, .base (.int _), kit_ty (by decide +kernel), _, rfl, iteF ?_⟩
        exact ⟨_, rfl, Same.refl _, .inl ⟨wd, rfl, by omega, w2, hmw⟩, .inl ⟨wd, rfl, w1, w2⟩, hmk⟩
      · refine ⟨_, rfl, _, _, _, _, true, rfl, .ty _, .base (.tup ea), kit_ty (by decide +kernel), _, rfl, iteT ?_⟩
        refine ⟨_, rfl, a, _, _, _, rfl, rfl, SqT.of ea, rfl, _, rfl, a, _, _, _, rfl, rfl, SqT.of ea, rfl, fun x dx nx ndx ne => ?_⟩
        refine ⟨x, dx, p, q, rfl, upd_same, rfl, ?_⟩
        refine ⟨_, rfl, same_made nx ndx, .inr ⟨x, dx, p, q, rfl, upd_same, p0, p4, hmw⟩, .inr ⟨x, dx, p, q, rfl, upd_same, p0, p4, by omega, q1⟩, fun hc => ?_⟩
        obtain ⟨z, hz⟩ := hmk hc
        cases hz
    rintro σ' H' ⟨wv, rfl, s1, hW, hP, hM⟩
    -- the brim
    refine ⟨fun σ' H2 => ∃ br, σ' = [some (.ref r), some (.str "over"), some wv, some (.str rule), some (.str bare), some (.ref br)] ∧ Same H' H2 ∧ BrV CF H2 br, ?_, ?_⟩
    · rcases hbr with ⟨z, eb, hz⟩ | ⟨z, c, a, p, q, eb, hz, hc, ea, p0, p4, q0, q1⟩
      · refine ⟨_, rfl, brim, _, rfl, .inr (SqT.of (s1 _ _ eb)), rfl, _, rfl, iteF ?_⟩
        exact ⟨brim, rfl, Same.refl _, .inl ⟨z, s1 _ _ eb, hz⟩⟩
      · have eb' := s1 _ _ eb
        have ea' := s1 _ _ ea
        refine ⟨_, rfl, brim, _, rfl, .inr (SqT.of eb'), rfl, _, rfl, iteT ?_⟩
        refine ⟨_, rfl, brim, _, _, _, rfl, rfl, SqT.of eb', rfl, _, rfl, brim, _, _, _, rfl, rfl, SqT.of eb', rfl, ?_⟩
        refine ⟨_, rfl, brim, _, _, _, rfl, rfl, SqT.of eb', rfl, a, _, _, _, rfl, rfl, SqT.of ea', rfl, _, rfl, brim, _, _, _, rfl, rfl, SqT.of eb', rfl, a, _, _, _, rfl, rfl, SqT.of ea', rfl, fun x dx nx ndx ne => ?_⟩
        refine ⟨x, dx, p, q, rfl, upd_same, rfl, by show 3 ≤ sizeLine; decide, fun u hu => ?_⟩
        have s2 := (same_made (C := CF) (fs := fmF p q) nx ndx)
        have nxu : x ≠ u := ne_of_none upd_same hu
        exact ⟨u, rfl, s2.trans (same_new hu), .inr ⟨z, c, x, dx, p, q, upd_same, hz, hc, (upd_ne nxu).trans upd_same, p0, p4, q0, q1⟩⟩
    rintro σ' H2 ⟨br, rfl, s2, hB⟩
    have hW2 : WrV CF H2 wv n m := by
      rcases hW with h | ⟨a, dx, p, q, e, ea, z⟩
      · exact .inl h
      · exact .inr ⟨a, dx, p, q, e, s2 _ _ ea, z⟩
    have hP2 := hP.same s2
    refine ⟨_, rfl, _, rfl, _, rfl, _, rfl, _, rfl, rfl, rfl, fun x dx nx ndx ne => ?_⟩
    have s3 : Same H2 (upd (upd H2 dx (.own x)) x (.ins CS dx [])) := fun b o e => by
      rw [upd_ne (ne_of_none e nx), upd_ne (ne_of_none e ndx)]
      exact e
    refine ⟨x, dx, wv, rule, bare, br, "over", rfl, upd_same, hP2.same s3, hru, hM, hba, hB.same s3, by simp, fun H3 kp e3 => ⟨rfl, ?_⟩⟩
    have s4 : Same H2 H3 := fun b o e => kp b o (ne_of_none e nx) (s3 _ _ e)
    refine kk H3 x (s1.trans (s2.trans s4)) ⟨dx, wv, rule, _, _, e3, n1, n2, ?_, m1, nm, hof⟩
    rcases hW2 with h | ⟨a, dx, p, q, e, ea, z⟩
    · exact .inl h
    · exact .inr ⟨a, dx, p, q, e, s4 _ _ ea, z⟩
end
end K61
/-! The law's setting. -/
namespace K61
open PySem L2
theorem two_nat (e : Nat) : (2 : Int) ^ e = ((2 ^ e : Nat) : Int) := by
  induction e with
  | zero => rfl
  | succ e ih => rw [Int.pow_succ, Nat.pow_succ, ih]; omega
theorem two_pos (e : Nat) : (1 : Int) ≤ 2 ^ e := by
  rw [two_nat]
  have : 0 < 2 ^ e := Nat.pow_pos (by decide)
  omega
theorem two_le {a b : Nat} (h : a ≤ b) : (2 : Int) ^ a ≤ 2 ^ b := by
  rw [two_nat, two_nat]
  have : 2 ^ a ≤ 2 ^ b := Nat.pow_le_pow_right (by decide) h
  omega
theorem two_dvd {a b : Nat} (h : a ≤ b) : (2 : Int) ^ b % 2 ^ a = 0 := by
  rw [two_nat, two_nat]
  have : 2 ^ b % 2 ^ a = 0 := Nat.mod_eq_zero_of_dvd (Nat.pow_dvd_pow 2 h)
  omega
/-- all that was tracked but at p is kept -/
def Kp (p : Addr) (H H' : Hp) : Prop := ∀ b o, b ≠ p → H b = some o → H' b = some o
theorem Kp.trans {p : Addr} {H H1 H2 : Hp} (a : Kp p H H1) (b : Kp p H1 H2) : Kp p H H2 := fun c o hc e => b c o hc (a c o hc e)
theorem Kp.of {p : Addr} {H H' : Hp} (s : Same H H') : Kp p H H' := fun b o _ e => s b o e
theorem PT.kp {c p : Addr} {ns : List Int} {H H' : Hp} (a : PT c p ns H H') : Kp p H H' := fun b o hb e => (a.oth b hb).trans e
theorem PoolAt.same {c p : Addr} {ns : List Int} {H H' : Hp} (h : PoolAt c p ns H) (s : Same H H') : PoolAt c p ns H' := by
  obtain ⟨⟨i, b, k, z, e, hi⟩, ce, ne, ln⟩ := h
  exact ⟨⟨i, b, k, z, s _ _ e, hi⟩, s _ _ ce, ne, ln⟩
/-- a tuple, an instance is not the pool -/
theorem PoolAt.ne_tup {c p : Addr} {ns : List Int} {H : Hp} (h : PoolAt c p ns H) {a : Addr} {xs : List V} (e : H a = some (.tup xs)) : a ≠ p := by
  obtain ⟨⟨i, b, k, z, ep, _⟩, _⟩ := h
  exact ne_of e ep (by intro q; cases q)
theorem PoolAt.ne_ins {c p : Addr} {ns : List Int} {H : Hp} (h : PoolAt c p ns H) {a C dx : Addr} {fs : List (Str × V)} (e : H a = some (.ins C dx fs)) : a ≠ p := by
  obtain ⟨⟨i, b, k, z, ep, _⟩, _⟩ := h
  exact ne_of e ep (by intro q; cases q)
theorem Kp.kt {c p : Addr} {ns : List Int} {H H' : Hp} (k : Kp p H H') (h : PoolAt c p ns H) : KT H H' := fun a xs e => k a _ (h.ne_tup e) e
theorem RowV.kt {H H' : Hp} {r : Addr} {n m : Int} (h : RowV H r n m) (s : KT H H') : RowV H' r n m := by
  obtain ⟨⟨turn, rule, bare, brim, er, ht, a1, a2, a3, a4, hb⟩, n1, n2, m1, nm⟩ := h
  refine ⟨⟨turn, rule, bare, brim, s _ _ er, ?_, a1, a2, a3, a4, hb.kt s⟩, n1, n2, m1, nm⟩
  rcases ht with h | ⟨a, p, q, e, ea, r⟩
  · exact .inl h
  · exact .inr ⟨a, p, q, e, s _ _ ea, r⟩
def spSetting : Sp := fun vs H Q _ => ∃ (c p : Addr) (ns : List Int), vs = [.ref p] ∧ PoolAt c p ns H ∧ ∀ H' a r n m, PoolAt c p ns H' → Kp p H H' → H' a = some (.tup [.ref r, .int n, .int m]) → RowV H' r n m → m ≤ 10 ^ 31 → Q (.ref a) H'
section
variable {P : Program} {w : World} {K : PySem.W.Frag} {mg : Str → Option Value} {base : Heap} {f CL CR CF CS : Addr} {fd : FuncData}
theorem scSetting : FnScope ["_law_pool_here", "_law_many", "_law_brim", "_law_bare", "_law_n", "_law_more", "_law_kind", "_law_modulus", "_law_rule", "_law_wide_here"] ["_law_pool_here"] (defScope tSetting) := ⟨rfl, rfl, rfl, by decide +kernel, rfl, by decide +kernel, by decide +kernel⟩
theorem ok_setting (F : Fun K "_law_setting" "_law_setting" tSetting f fd) (T : Txt K mg CL CR CF CS) (D : Def1 P w K mg base 2 "_law_draw" ["_law_pool_here", "_law_many"] spDraw) (D2 : Def1 P w K mg base 3 "_law_wide" ["_law_pool_here", "_law_most"] spWide)
    (D3 : Def1 P w K mg base 1 "_law_power" ["_law_many"] spPower) : FnOk P w K mg base CX0 4 f fd ["_law_pool_here"] spSetting := by
  refine F.ok scSetting (fun vs H Q E h => ?_) (fun cdv A outer s H vs Q E hr h => ?_)
  · obtain ⟨c, p, ns, rfl, _⟩ := h
    rfl
  · obtain ⟨c, p, ns, rfl, hp, kk⟩ := h
    have nd := scSetting.nd
    have hr2 : Room 2 _ := hr.mono (by decide)
    have hr1 : Room 1 _ := hr.mono (by decide)
    refine ⟨_, pss_cons (ps_set (i := 1) nd rfl (Or.inl rfl) (pe_op op_add pe_int (call1 D hr2 (pa_cons (pv 0) (pa_cons pe_int pa_nil)))))
      (C8.pss_cut (ps_set (i := 2) nd rfl (Or.inl rfl) (pe_ix ix_tup (pe_tup (pa_cons (pe_tup (pa_cons pe_str pa_nil)) (pa_cons (pe_tup (pa_cons pe_str pa_nil))
          (pa_cons (pe_tup (pa_cons pe_str (pa_cons pe_str (pa_cons (pe_tup (pa_cons pe_int (pa_cons pe_int pa_nil))) pa_nil)))) (pa_cons (pe_tup (pa_cons pe_str (pa_cons pe_str (pa_cons (pe_tup (pa_cons pe_int (pa_cons pe_int pa_nil))) pa_nil)))) pa_nil)))))
          (call1 D hr2 (pa_cons (pv 0) (pa_cons pe_int pa_nil))) (fun _ _ => rfl)))
      (C8.pss_cut (ps_set (i := 3) nd rfl (Or.inl rfl) (pe_ix ix_tup (pe_tup (pa_cons pe_str (pa_cons pe_str (pa_cons pe_str pa_nil)))) (call1 D hr2 (pa_cons (pv 0) (pa_cons pe_int pa_nil))) (fun _ _ => rfl)))
      (pss_cons (ps_if (pt_cmpR op_eq (call1 D hr2 (pa_cons (pv 0) (pa_cons pe_int pa_nil))) pe_int (nomark _))
        (pss_cons (ps_set (i := 4) nd rfl (Or.inl rfl) (pe_op op_add pe_int (call1 D hr2 (pa_cons (pv 0) (pa_cons pe_int pa_nil)))))
        (pss_cons (ps_set (i := 5) nd rfl (Or.inl rfl) pe_int)
        (pss_cons (ps_set (i := 6) nd rfl (Or.inl rfl) (call1 D hr2 (pa_cons (pv 0) (pa_cons pe_int pa_nil))))
        (C8.pss_cut (ps_if (pt_cmpR op_eq (pv 6) pe_int (nomark _)) (pss_one (ps_set (i := 5) nd rfl (Or.inl rfl) (pe_op op_mul (pv 4)
            (pe_op op_mod (pe_callTy call_int1 (by rfl) T.int bInt (pa_cons (call1 D hr2 (pa_cons (pv 0) (pa_cons pe_int pa_nil))) pa_nil)) (pe_op op_add pe_int (pe_op op_fdiv pe_int (pv 4))))))) pss_nil)
        (C8.pss_cut (ps_if (pt_cmpR op_eq (pv 6) pe_int (nomark _)) (pss_one (ps_set (i := 4) nd rfl (Or.inl rfl) (pe_op op_add pe_int (call1 D2 (hr.mono (by decide)) (pa_cons (pv 0) (pa_cons (pe_op op_sub (pe_op op_pow pe_int pe_int) pe_int) pa_nil)))))) pss_nil)
        (pss_cons (ps_set (i := 7) nd rfl (Or.inl rfl) (pe_op op_add (pe_op op_mul (pv 1) (pv 4)) (pv 5)))
        (C8.pss_cut (ps_set (i := 8) nd rfl (Or.inl rfl) (pe_ix ix_tup (pe_tup (pa_cons pe_str (pa_cons pe_str pa_nil)))
            (pe_op op_mul (pe_callTy call_int1 (by rfl) T.int bInt (pa_cons (pe_cmpR op_le (pv 7) (pe_op op_mul pe_int (pv 4)) (nomark _)) pa_nil)) (call1 D hr2 (pa_cons (pv 0) (pa_cons pe_int pa_nil)))) (fun _ _ => rfl)))
        (pss_one (ps_ret (pe_tup (pa_cons (pe_tup (pa_cons (pe_tup (pa_cons (pv 1) (pa_cons (pv 5) pa_nil))) (pa_cons (pv 8) (pa_cons (pv 3) (pa_cons (pv 2) pa_nil))))) (pa_cons (pv 4) (pa_cons (pv 7) pa_nil))))))))))))) pss_nil)
      (C8.pss_cut (ps_set (i := 9) nd rfl (Or.inl rfl) (pe_op op_add pe_int (pe_ix ix_tup (pe_tup (pa_cons (call1 D hr2 (pa_cons (pv 0) (pa_cons pe_int pa_nil))) (pa_cons (call1 D hr2 (pa_cons (pv 0) (pa_cons pe_int pa_nil))) pa_nil)))
          (call1 D hr2 (pa_cons (pv 0) (pa_cons pe_int pa_nil))) (fun _ _ => rfl))))
      (pss_cons (ps_set (i := 7) nd rfl (Or.inl rfl) (call1 D3 hr1 (pa_cons (pv 9) pa_nil)))
      (C8.pss_cut (ps_set (i := 4) nd rfl (Or.inl rfl) (call1 D3 hr1 (pa_cons (pe_op op_mod (pe_callTy call_int1 (by rfl) T.int bInt (pa_cons (call1 D hr2 (pa_cons (pv 0) (pa_cons pe_int pa_nil))) pa_nil))
          (pe_op op_add (pv 9) (pe_callTy call_int1 (by rfl) T.int bInt (pa_cons (pe_cmpR op_lt (pv 9) pe_int (nomark _)) pa_nil)))) pa_nil)))
      (C8.pss_cut (ps_set (i := 8) nd rfl (Or.inl rfl) (pe_ix ix_tup (pe_tup (pa_cons pe_str (pa_cons pe_str (pa_cons pe_str pa_nil))))
          (call1 D hr2 (pa_cons (pv 0) (pa_cons (pe_op op_add pe_int (pe_callTy call_int1 (by rfl) T.int bInt (pa_cons (pe_cmpR op_le (pv 7) (pe_op op_mul pe_int (pv 4)) (nomark _)) pa_nil))) pa_nil))) (fun _ _ => rfl)))
      (pss_one (ps_ret (pe_tup (pa_cons (pe_tup (pa_cons (pv 9) (pa_cons (pv 8) (pa_cons (pv 3) (pa_cons (pv 2) pa_nil))))) (pa_cons (pv 4) (pa_cons (pv 7) pa_nil))))))))))))), ?_⟩
    -- many
    refine ⟨_, rfl, c, p, ns, _, rfl, hp, by decide, by decide, fun v1 H1 a1 b1 T1 => ?_⟩
    refine ⟨_, _, rfl, rfl, ?_⟩
    -- brim
    refine ⟨fun σ' H' => ∃ br, σ' = [some (.ref p), some (.int (1 + v1)), some (.ref br), none, none, none, none, none, none, none] ∧ PoolAt c p ns H' ∧ Kp p H H' ∧ BrimV H' br, ?_, ?_⟩
    · refine ⟨by show 1 ≤ sizeLine; decide, fun p1 h1 => ?_⟩
      have s1 : Same H1 _ := same_new (o := .tup [.str "next"]) h1
      refine ⟨by show 1 ≤ sizeLine; decide, fun p2 h2 => ?_⟩
      have s2 := s1.trans (same_new (o := .tup [.str "note"]) h2)
      refine ⟨by show 2 ≤ sizeLine; decide, fun p3 h3 => ?_⟩
      have s3 := s2.trans (same_new (o := .tup [.int 1, .int 0]) h3)
      refine ⟨by show 3 ≤ sizeLine; decide, fun p4 h4 => ?_⟩
      have s4 := s3.trans (same_new (o := .tup [.str "diff", .str "=", .ref p3]) h4)
      refine ⟨by show 2 ≤ sizeLine; decide, fun p5 h5 => ?_⟩
      have s5 := s4.trans (same_new (o := .tup [.int 0, .int 3]) h5)
      refine ⟨by show 3 ≤ sizeLine; decide, fun p6 h6 => ?_⟩
      have s6 := s5.trans (same_new (o := .tup [.str "count", .str ">=", .ref p5]) h6)
      refine ⟨by show 4 ≤ sizeLine; decide, fun p7 h7 => ?_⟩
      have s7 := s6.trans (same_new (o := .tup [.ref p1, .ref p2, .ref p4, .ref p6]) h7)
      have q1 := (same_new (o := .tup [.ref p1, .ref p2, .ref p4, .ref p6]) h7)
      have q2 := (same_new (o := .tup [.str "count", .str ">=", .ref p5]) h6).trans q1
      have q3 := (same_new (o := .tup [.int 0, .int 3]) h5).trans q2
      have q4 := (same_new (o := .tup [.str "diff", .str "=", .ref p3]) h4).trans q3
      have q5 := (same_new (o := .tup [.int 1, .int 0]) h3).trans q4
      have q6 := (same_new (o := .tup [.str "note"]) h2).trans q5
      have e1 := q6 p1 _ upd_same
      have e2 := q5 p2 _ upd_same
      have e3 := q4 p3 _ upd_same
      have e4 := q3 p4 _ upd_same
      have e5 := q2 p5 _ upd_same
      have e6 := q1 p6 _ upd_same
      have pp := T1.at_.same s7
      refine ⟨_, rfl, c, p, ns, _, rfl, pp, by decide, by decide, fun v2 H2 a2 b2 T2 => ?_⟩
      have kt : KT _ H2 := T2.kp.kt pp
      have kq : Kp p H H2 := (T1.kp.trans (Kp.of s7)).trans T2.kp
      obtain ⟨br, ha, hb⟩ : ∃ br, atI [V.ref p1, V.ref p2, V.ref p4, V.ref p6] v2 = some (V.ref br) ∧ BrimV H2 br := by
        have hv : v2 = 0 ∨ v2 = 1 ∨ v2 = 2 ∨ v2 = 3 := by omega
        rcases hv with rfl | rfl | rfl | rfl
        · exact ⟨p1, rfl, .inl ⟨_, kt _ _ e1, by simp⟩⟩
        · exact ⟨p2, rfl, .inl ⟨_, kt _ _ e2, by simp⟩⟩
        · exact ⟨p4, rfl, .inr ⟨_, _, p3, 1, 0, kt _ _ e4, by simp, by simp, kt _ _ e3, by decide, by decide, by decide, by decide⟩⟩
        · exact ⟨p6, rfl, .inr ⟨_, _, p5, 0, 3, kt _ _ e6, by simp, by simp, kt _ _ e5, by decide, by decide, by decide, by decide⟩⟩
      exact ⟨p7, _, v2, _, rfl, rfl, SqT.of (kt _ _ upd_same), ha, br, rfl, T2.at_, kq, hb⟩
    rintro σ' H2 ⟨br, rfl, P2, k2, hbr⟩
    -- bare
    refine ⟨fun σ' H' => ∃ ba : Str, σ' = [some (.ref p), some (.int (1 + v1)), some (.ref br), some (.str ba), none, none, none, none, none, none] ∧ PoolAt c p ns H' ∧ Kp p H H' ∧ BrimV H' br ∧ ba ∈ (["same", "count", "note"] : List Str), ?_, ?_⟩
    · refine ⟨by show 3 ≤ sizeLine; decide, fun pt hpt => ?_⟩
      have s1 : Same H2 _ := same_new (o := .tup [.str "same", .str "count", .str "note"]) hpt
      refine ⟨_, rfl, c, p, ns, _, rfl, P2.same s1, by decide, by decide, fun v2 H3 a2 b2 T2 => ?_⟩
      have kt : KT _ H3 := T2.kp.kt (P2.same s1)
      have kq : Kp p H2 H3 := (Kp.of s1).trans T2.kp
      obtain ⟨ba, ha, hb⟩ : ∃ ba : Str, atI [V.str "same", V.str "count", V.str "note"] v2 = some (V.str ba) ∧ ba ∈ (["same", "count", "note"] : List Str) := by
        have hv : v2 = 0 ∨ v2 = 1 ∨ v2 = 2 := by omega
        rcases hv with rfl | rfl | rfl
        · exact ⟨"same", rfl, by simp⟩
        · exact ⟨"count", rfl, by simp⟩
        · exact ⟨"note", rfl, by simp⟩
      exact ⟨pt, _, v2, _, rfl, rfl, SqT.of (kt _ _ upd_same), ha, ba, rfl, T2.at_, k2.trans kq, hbr.kt (kq.kt P2), hb⟩
    rintro σ' H3 ⟨ba, rfl, P3, k3, hbr3, hba⟩
    refine ⟨_, rfl, c, p, ns, _, rfl, P3, by decide, by decide, fun v4 H4 a4 b4 T4 => ?_⟩
    have k4 := k3.trans T4.kp
    have hbr4 := hbr3.kt (T4.kp.kt P3)
    refine ⟨rfl, _, rfl, ?_⟩
    refine ite2 (fun _ => ?_) (fun _ => ?_)
    · -- k * N, and a multiple of the size
      refine ⟨_, rfl, c, p, ns, _, rfl, T4.at_, by decide, by decide, fun v5 H5 a5 b5 T5 => ?_⟩
      refine ⟨_, _, rfl, rfl, ?_⟩
      refine ⟨_, rfl, c, p, ns, _, rfl, T5.at_, by decide, by decide, fun v6 H6 a6 b6 T6 => ?_⟩
      have k6 := k4.trans (T5.kp.trans T6.kp)
      have hbr6 := hbr4.kt ((T5.kp.trans T6.kp).kt T4.at_)
      refine ⟨fun σ' H' => ∃ mo : Int, σ' = [some (.ref p), some (.int (1 + v1)), some (.ref br), some (.str ba), some (.int (1 + v5)), some (.int mo), some (.int v6), none, none, none] ∧ PoolAt c p ns H' ∧ Kp p H H' ∧ BrimV H' br ∧
        0 ≤ mo ∧ mo ≤ 20 ∧ mo % (1 + v5) = 0 ∧ (v6 ≠ 0 → mo = 0), ?_, ?_⟩
      · refine ⟨_, rfl, rfl, _, rfl, ?_⟩
        refine ite2 (fun hz => ?_) (fun _ => ?_)
        · have hz6 : v6 = 0 := V.int.inj (of_decide_eq_true hz)
          refine ⟨_, rfl, _, rfl, c, p, ns, _, rfl, T6.at_, by decide, by decide, fun v7 H7 a7 b7 T7 => ?_⟩
          have d0 : 0 ≤ 20 / (1 + v5) := Int.ediv_nonneg (by decide) (by omega)
          have d1 : 0 < 1 + 20 / (1 + v5) := by omega
          have r0 := Int.emod_nonneg v7 (Int.ne_of_gt d1)
          have r1 := Int.emod_lt_of_pos v7 d1
          refine .inl ⟨_, rfl, _, rfl, _, _, rfl, rfl, ⟨by omega, by omega⟩, _, _, rfl, rfl, _, _, rfl, rfl, d1, _, _, rfl, rfl, .inl ⟨by omega, by omega⟩, ?_⟩
          refine ⟨_, rfl, T7.at_, k6.trans T7.kp, hbr6.kt (T7.kp.kt T6.at_), Int.mul_nonneg (by omega) r0, ?_, Int.mul_emod_right _ _, fun q => absurd hz6 q⟩
          have y1 : (1 + v5) * (v7 % (1 + 20 / (1 + v5))) ≤ (1 + v5) * (20 / (1 + v5)) := Int.mul_le_mul_of_nonneg_left (by omega) (by omega)
          have y2 := Int.emod_add_mul_ediv 20 (1 + v5)
          have y3 := Int.emod_nonneg 20 (show (1 + v5) ≠ 0 by omega)
          omega
        · exact ⟨0, rfl, T6.at_, k6, hbr6, Int.le_refl 0, by decide, Int.zero_emod _, fun _ => rfl⟩
      rintro σ' H7 ⟨mo, rfl, P7, k7, hbr7, mo0, mo1, mo2, mo3⟩
      refine ⟨fun σ' H' => ∃ n : Int, σ' = [some (.ref p), some (.int (1 + v1)), some (.ref br), some (.str ba), some (.int n), some (.int mo), some (.int v6), none, none, none] ∧ PoolAt c p ns H' ∧ Kp p H H' ∧ BrimV H' br ∧
        1 ≤ n ∧ n ≤ 10 ^ 30 ∧ mo % n = 0, ?_, ?_⟩
      · refine ⟨_, rfl, rfl, _, rfl, ?_⟩
        refine ite2 (fun hz => ?_) (fun _ => ?_)
        · have hz6 : v6 = 1 := V.int.inj (of_decide_eq_true hz)
          have hmo : mo = 0 := mo3 (by omega)
          refine ⟨_, rfl, _, _, rfl, rfl, ⟨by decide, by decide, by decide⟩, _, _, rfl, rfl, c, p, ns, _, rfl, P7, by decide, fun v8 H8 a8 b8 T8 => ?_⟩
          have b8' : v8 ≤ 10 ^ 30 - 1 := b8
          refine ⟨_, _, rfl, rfl, _, rfl, T8.at_, k7.trans T8.kp, hbr7.kt (T8.kp.kt P7), by omega, by omega, ?_⟩
          rw [hmo, Int.zero_emod]
        · exact ⟨_, rfl, P7, k7, hbr7, by omega, by omega, mo2⟩
      rintro σ' H8 ⟨n, rfl, P8, k8, hbr8, n1, n2, nm⟩
      refine ⟨_, rfl, _, rfl, _, _, rfl, rfl, .inl ⟨by omega, by omega⟩, _, rfl, _, _, rfl, rfl, ?_⟩
      have mm : ((1 + v1) * n + mo) % n = 0 := by
        rw [Int.add_emod, Int.mul_emod_left, nm]
        exact Int.zero_emod n
      have x1 : 1 * n ≤ (1 + v1) * n := Int.mul_le_mul_of_nonneg_right (by omega) (by omega)
      have x2 : (1 + v1) * n ≤ 4 * n := Int.mul_le_mul_of_nonneg_right (by omega) (by omega)
      obtain ⟨m, hm⟩ : ∃ m, (1 + v1) * n + mo = m := ⟨_, rfl⟩
      rw [hm] at mm
      refine ⟨fun σ' H' => ∃ ru : Str, σ' = [some (.ref p), some (.int (1 + v1)), some (.ref br), some (.str ba), some (.int n), some (.int mo), some (.int v6), some (.int m), some (.str ru), none] ∧ PoolAt c p ns H' ∧ Kp p H H' ∧ BrimV H' br ∧
        ru ∈ (["rest", "off", "mask"] : List Str) ∧ (ru = "off" → m ≤ 2 * n) ∧ ru ≠ "mask", ?_, ?_⟩
      · subst hm
        refine ⟨by show 2 ≤ sizeLine; decide, fun pt hpt => ?_⟩
        have s1 : Same H8 _ := same_new (o := .tup [.str "rest", .str "off"]) hpt
        refine ⟨_, rfl, _, rfl, _, _, rfl, rfl, .inl ⟨by decide, by decide⟩, _, _, rfl, rfl, .inr ⟨_, rfl, ?_⟩⟩
        refine ⟨_, rfl, c, p, ns, _, rfl, P8.same s1, by decide, by decide, fun v9 H9 a9 b9 T9 => ?_⟩
        have kt : KT _ H9 := T9.kp.kt (P8.same s1)
        have kq : Kp p H8 H9 := (Kp.of s1).trans T9.kp
        refine ⟨_, _, rfl, rfl, .inr ⟨by omega, by omega⟩, ?_⟩
        obtain ⟨ru, ha, hb, hc, hd⟩ : ∃ ru : Str, atI [V.str "rest", V.str "off"] ((if decide ((1 + v1) * n + mo ≤ 2 * n) = true then 1 else 0) * v9) = some (V.str ru) ∧ ru ∈ (["rest", "off", "mask"] : List Str) ∧ (ru = "off" → (1 + v1) * n + mo ≤ 2 * n) ∧ ru ≠ "mask" := by
          have hv : v9 = 0 ∨ v9 = 1 := by omega
          by_cases hle : (1 + v1) * n + mo ≤ 2 * n
          · rw [decide_eq_true hle, if_pos rfl]
            rcases hv with rfl | rfl
            · exact ⟨"rest", rfl, by simp, fun _ => hle, by decide +kernel⟩
            · exact ⟨"off", rfl, by simp, fun _ => hle, by decide +kernel⟩
          · rw [decide_eq_false hle, if_neg Bool.false_ne_true, Int.zero_mul]
            exact ⟨"rest", rfl, by simp, fun q => absurd q (by decide +kernel), by decide +kernel⟩
        exact ⟨pt, _, _, _, rfl, rfl, SqT.of (kt _ _ upd_same), ha, ru, rfl, T9.at_, k8.trans kq, hbr8.kt (kq.kt P8), hb, hc, hd⟩
      rintro σ' H9 ⟨ru, rfl, P9, k9, hbr9, hru, hof, hmk⟩
      refine ⟨_, rfl, _, rfl, by show 2 ≤ sizeLine; decide, fun u1 hu1 => ?_⟩
      have s1 : Same H9 _ := same_new (o := .tup [.int (1 + v1), .int mo]) hu1
      refine ⟨_, rfl, _, rfl, _, rfl, by show 4 ≤ sizeLine; decide, fun u2 hu2 => ?_⟩
      have s2 := s1.trans (same_new (o := .tup [.ref u1, .str ru, .str ba, .ref br]) hu2)
      refine ⟨_, rfl, _, rfl, by show 3 ≤ sizeLine; decide, fun u3 hu3 => ?_⟩
      have s3 := s2.trans (same_new (o := .tup [.ref u2, .int n, .int m]) hu3)
      have g1 := (same_new (o := .tup [.ref u2, .int n, .int m]) hu3)
      have g2 := (same_new (o := .tup [.ref u1, .str ru, .str ba, .ref br]) hu2).trans g1
      refine kk _ u3 u2 n m (P9.same s3) (k9.trans (Kp.of s3)) upd_same ⟨⟨.ref u1, ru, ba, br, g1 u2 _ upd_same, .inr ⟨u1, 1 + v1, mo, rfl, g2 u1 _ upd_same, by omega, by omega, mo0, mo1, hm.symm⟩, hru, fun q => absurd q hmk, hof, hba, hbr9.kt fun a xs e => s3 _ _ e⟩, n1, n2, by omega, mm⟩ (by omega)
    · -- a width
      refine ⟨fun σ' H' => ∃ wd : Int, σ' = [some (.ref p), some (.int (1 + v1)), some (.ref br), some (.str ba), none, none, none, none, none, some (.int wd)] ∧ PoolAt c p ns H' ∧ Kp p H H' ∧ BrimV H' br ∧ 1 ≤ wd ∧ wd ≤ 100, ?_, ?_⟩
      · refine ⟨_, rfl, c, p, ns, _, rfl, T4.at_, by decide, by decide, fun v5 H5 a5 b5 T5 => ?_⟩
        refine ⟨_, rfl, c, p, ns, _, rfl, T5.at_, by decide, by decide, fun v6 H6 a6 b6 T6 => ?_⟩
        refine ⟨by show 2 ≤ sizeLine; decide, fun pt hpt => ?_⟩
        have s1 : Same H6 _ := same_new (o := .tup [.int v5, .int v6]) hpt
        refine ⟨_, rfl, c, p, ns, _, rfl, T6.at_.same s1, by decide, by decide, fun v7 H7 a7 b7 T7 => ?_⟩
        have kt : KT _ H7 := T7.kp.kt (T6.at_.same s1)
        have kq : Kp p H4 H7 := T5.kp.trans (T6.kp.trans ((Kp.of s1).trans T7.kp))
        obtain ⟨x, ha, x0, x1⟩ : ∃ x : Int, atI [V.int v5, V.int v6] v7 = some (V.int x) ∧ 0 ≤ x ∧ x < 100 := by
          have hv : v7 = 0 ∨ v7 = 1 := by omega
          rcases hv with rfl | rfl
          · exact ⟨v5, rfl, a5, by omega⟩
          · exact ⟨v6, rfl, a6, b6⟩
        exact ⟨pt, _, v7, _, rfl, rfl, SqT.of (kt _ _ upd_same), ha, _, _, rfl, rfl, _, rfl, T7.at_, k4.trans kq, hbr4.kt (kq.kt T4.at_), by omega, by omega⟩
      rintro σ' H5 ⟨wd, rfl, P5, k5, hbr5, w0, w1⟩
      refine ⟨_, rfl, wd, rfl, by omega, by omega, ?_⟩
      refine ⟨fun σ' H' => ∃ e : Nat, σ' = [some (.ref p), some (.int (1 + v1)), some (.ref br), some (.str ba), some (.int ((2 : Int) ^ e)), none, none, some (.int ((2 : Int) ^ wd.toNat)), none, some (.int wd)] ∧ PoolAt c p ns H' ∧ Kp p H H' ∧ BrimV H' br ∧ e ≤ wd.toNat ∧ e ≤ 99, ?_, ?_⟩
      · refine ⟨_, rfl, c, p, ns, _, rfl, P5, by decide, by decide, fun v6 H6 a6 b6 T6 => ?_⟩
        refine .inl ⟨_, rfl, _, rfl, _, rfl, _, _, rfl, rfl, .inr ⟨_, rfl, ?_⟩⟩
        have hb : (if decide (wd < 100) = true then (1 : Int) else 0) = if wd < 100 then 1 else 0 := by
          by_cases q : wd < 100
          · rw [decide_eq_true q, if_pos rfl, if_pos q]
          · rw [decide_eq_false q, if_neg Bool.false_ne_true, if_neg q]
        have d1 : 0 < wd + (if decide (wd < 100) = true then (1 : Int) else 0) := by rw [hb]; split <;> omega
        have r0 := Int.emod_nonneg v6 (Int.ne_of_gt d1)
        have r1 := Int.emod_lt_of_pos v6 d1
        refine ⟨_, _, rfl, rfl, _, _, rfl, rfl, d1, _, rfl, r0, ?_, ?_⟩
        · rw [hb] at r1 ⊢
          split at r1 <;> split <;> omega
        · refine ⟨_, rfl, T6.at_, k5.trans T6.kp, hbr5.kt (T6.kp.kt P5), ?_, ?_⟩
          · rw [hb] at r1 r0 ⊢
            split at r1 <;> split <;> omega
          · rw [hb] at r1 r0 ⊢
            split at r1 <;> split <;> omega
      rintro σ' H6 ⟨e, rfl, P6, k6, hbr6, e1, e2⟩
      have n1 := two_pos e
      have n2 : (2 : Int) ^ e ≤ 10 ^ 30 := Int.le_trans (two_le e2) (by decide)
      have m1 := two_pos wd.toNat
      have m2 : (2 : Int) ^ wd.toNat ≤ 10 ^ 31 := Int.le_trans (two_le (show wd.toNat ≤ 100 by omega)) (by decide)
      have mm := two_dvd e1
      generalize hn : (2 : Int) ^ e = n at n1 n2 mm ⊢
      generalize hm : (2 : Int) ^ wd.toNat = m at m1 m2 mm ⊢
      refine ⟨fun σ' H' => ∃ ru : Str, σ' = [some (.ref p), some (.int (1 + v1)), some (.ref br), some (.str ba), some (.int n), none, none, some (.int m), some (.str ru), some (.int wd)] ∧ PoolAt c p ns H' ∧ Kp p H H' ∧ BrimV H' br ∧
        ru ∈ (["rest", "off", "mask"] : List Str) ∧ (ru = "off" → m ≤ 2 * n), ?_, ?_⟩
      · refine ⟨by show 3 ≤ sizeLine; decide, fun pt hpt => ?_⟩
        have s1 : Same H6 _ := same_new (o := .tup [.str "rest", .str "mask", .str "off"]) hpt
        refine ⟨_, rfl, _, rfl, _, rfl, _, _, rfl, rfl, .inl ⟨by decide, by decide⟩, _, _, rfl, rfl, .inr ⟨_, rfl, ?_⟩⟩
        have hb : (if decide (m ≤ 2 * n) = true then (1 : Int) else 0) = if m ≤ 2 * n then 1 else 0 := by
          by_cases q : m ≤ 2 * n
          · rw [decide_eq_true q, if_pos rfl, if_pos q]
          · rw [decide_eq_false q, if_neg Bool.false_ne_true, if_neg q]
        refine ⟨_, _, rfl, rfl, c, p, ns, _, rfl, P6.same s1, ?_, ?_, fun v9 H9 a9 b9 T9 => ?_⟩
        · rw [hb]; split <;> omega
        · rw [hb]; split <;> omega
        have kt : KT _ H9 := T9.kp.kt (P6.same s1)
        have kq : Kp p H6 H9 := (Kp.of s1).trans T9.kp
        obtain ⟨ru, ha, hb, hc⟩ : ∃ ru : Str, atI [V.str "rest", V.str "mask", V.str "off"] v9 = some (V.str ru) ∧ ru ∈ (["rest", "off", "mask"] : List Str) ∧ (ru = "off" → m ≤ 2 * n) := by
          rw [hb] at b9
          have hv : v9 = 0 ∨ v9 = 1 ∨ (v9 = 2 ∧ m ≤ 2 * n) := by split at b9 <;> omega
          rcases hv with rfl | rfl | ⟨rfl, hle⟩
          · exact ⟨"rest", rfl, by simp, fun q => absurd q (by decide +kernel)⟩
          · exact ⟨"mask", rfl, by simp, fun q => absurd q (by decide +kernel)⟩
          · exact ⟨"off", rfl, by simp, fun _ => hle⟩
        exact ⟨pt, _, _, _, rfl, rfl, SqT.of (kt _ _ upd_same), ha, ru, rfl, T9.at_, k6.trans kq, hbr6.kt (kq.kt P6), hb, hc⟩
      rintro σ' H9 ⟨ru, rfl, P9, k9, hbr9, hru, hof⟩
      refine ⟨_, rfl, _, rfl, _, rfl, _, rfl, by show 4 ≤ sizeLine; decide, fun u2 hu2 => ?_⟩
      have s2 : Same H9 _ := (same_new (o := .tup [.int wd, .str ru, .str ba, .ref br]) hu2)
      refine ⟨_, rfl, _, rfl, by show 3 ≤ sizeLine; decide, fun u3 hu3 => ?_⟩
      have s3 := s2.trans (same_new (o := .tup [.ref u2, .int n, .int m]) hu3)
      have g1 := (same_new (o := .tup [.ref u2, .int n, .int m]) hu3)
      exact kk _ u3 u2 n m (P9.same s3) (k9.trans (Kp.of s3)) upd_same ⟨⟨.int wd, ru, ba, br, g1 u2 _ upd_same, .inl ⟨wd, rfl, w0, w1, hm.symm⟩, hru, fun _ => ⟨wd, rfl⟩, hof, hba, hbr9.kt fun a xs e => s3 _ _ e⟩, n1, n2, m1, mm⟩ m2
end
end K61
/-! A for statement in a generator def. -/
namespace K61
open PySem PySem.Spec PyProof.Rows L2 GenW
/-- what a loop's code does with an exception that leaves its turn -/
def goneBy (env : Env) (x : Value) : Sem PySem.Fin := (do noteFrame x env; theTreesLotGoes x : Sem Unit).wrap (fun _ => .raise x) .raise id id
/-- what follows a turn's body -/
def turnTo (c : Code) : Flow → Sem PySem.Fin
  | .next => .pure (.again c)
  | .cont => .pure (.again c)
  | .brk => .pure (.done .next)
  | .ret v => .pure (.done (.ret v))
section
variable {prog : Program} {w : World} {A : Around} {R : GenEnd} {Y : Protocol} {n : Nat} {s₀ : Shared} {fs : List Frame} {s : Shared} {env : Env} {target : Expr} {it : Value} {body : List Stmt}
theorem seg_forLoop
    (h : wpAny (model prog w) (A.over (.forLoop target it body [] env) fs) (pyNext it) (fun r s1 => match r with
      | none => Seg (model prog w) A R Y n s₀ (.block [] env) (.pure (.done .next)) fs s1
      | some v => wpAny (model prog w) (A.over (.forLoop target it body [] env) fs) (letOwnedTupleGo target it v) (fun _ s2 => wpAny (model prog w) (A.over (.forLoop target it body [] env) fs) (assign target env v)
          (fun _ s3 => Seg (model prog w) A R Y n s₀ (.forLoop target it body [] env) ((execs body env).wrap (turnTo (.forLoop target it body [] env)) (goneBy env) id id) fs s3)
          (fun x s' => Seg (model prog w) A R Y n s₀ (.forLoop target it body [] env) (goneBy env x) fs s') s2)
          (fun x s' => Seg (model prog w) A R Y n s₀ (.forLoop target it body [] env) (goneBy env x) fs s') s1)
      (fun x s' => Seg (model prog w) A R Y n s₀ (.forLoop target it body [] env) (goneBy env x) fs s') s) :
    Seg (model prog w) A R Y n s₀ (.forLoop target it body [] env) ((model prog w).den (.forLoop target it body [] env)) fs s := by
  show Seg _ A R Y n s₀ _ ((forTurn target it body [] env).onRaise (fun x => do noteFrame x env; theTreesLotGoes x)) fs s
  have eh : (fun e : Value => ((do noteFrame e env; theTreesLotGoes e : Sem Unit).bind fun _ => (.raise e : Sem PySem.Fin))) = goneBy env := by
    funext e
    rw [Sem.bind_eq_wrap]
    rfl
  rw [Sem.onRaise_eq_wrap]
  show Seg _ A R Y n s₀ _ ((forTurn target it body [] env).wrap .pure (fun e : Value => ((do noteFrame e env; theTreesLotGoes e : Sem Unit).bind fun _ => (.raise e : Sem PySem.Fin))) id id) fs s
  rw [eh]
  unfold forTurn
  refine seg_bind_wrap (wpAny_standAt ?_)
  refine seg_bind_wrap (wpAny_onRaise (wpAny_mono h (fun r s1 h1 => ?_) fun x s' hx => wpAny_standAt hx))
  cases r with
  | none =>
    refine seg_again rfl ?_
    exact h1
  | some v =>
    refine seg_bind_wrap (wpAny_mono h1 (fun _ s2 h2 => ?_) fun x s' hx => hx)
    refine seg_bind_wrap (wpAny_mono h2 (fun _ s3 h3 => ?_) fun x s' hx => hx)
    rw [Sem.bind_eq_wrap', Sem.wrap_wrap]
    have hk : (fun a : Flow => Sem.wrap Sem.pure (goneBy env) id id (match a with | .next => (Sem.pure (.again (.forLoop target it body [] env)) : Sem PySem.Fin) | .cont => .pure (.again (.forLoop target it body [] env)) | .brk => .pure (.done .next) | .ret v => .pure (.done (.ret v)))) = turnTo (.forLoop target it body [] env) := by
      funext f
      cases f <;> rfl
    have h4 := h3
    rw [← hk] at h4
    exact h4
end
section
variable {X : Cx} {tg iter : Expr} {body : List Stmt} {wi : TI} {g : TG} {tb : TGn} {pos : Pos}
/-- a for statement of a generator: W knows the turn, a measure, what is out -/
def tGFor (wi : TI) (g : TG) (tb : TGn) : TGn := fun D ys σ H => wi σ H fun J H1 => ∃ W : Nat → Nat → List V → L2.St → Hp → Prop, (∃ m, W 0 m ys σ H1) ∧ ∀ i m ys σ H, W i m ys σ H →
  (J.stop i H ∧ D.nx ys σ H) ∨ (J.go i H ∧ ∃ N : List V → L2.St → Hp → Prop, (∀ ys' σ' H', N ys' σ' H' → ∃ m', m' < m ∧ W (i + 1) m' ys' σ' H') ∧
    ∀ x H', J.yld i H x H' → g x σ H' fun σ2 H2 => tb { D with nx := N, ct := N, bk := D.nx } ys σ2 H2)
theorem gsp_map {S : Addr} {ip ip' : List (Addr × Obj)} {D : GEnds} {ys : List V} {f : Flow} {s : Shared} (h : ∀ σ H, GI X S ip ys σ H s → GI X S ip' ys σ H s) (z : GSP X S ip D ys f s) : GSP X S ip' D ys f s := by
  cases f with
  | next => obtain ⟨σ, H, I, q⟩ := z; exact ⟨σ, H, h σ H I, q⟩
  | brk => obtain ⟨σ, H, I, q⟩ := z; exact ⟨σ, H, h σ H I, q⟩
  | cont => obtain ⟨σ, H, I, q⟩ := z; exact ⟨σ, H, h σ H I, q⟩
  | ret u => obtain ⟨v, σ, H, I, r, q⟩ := z; exact ⟨v, σ, H, h σ H I, r, q⟩
theorem gs_for (hp : PassesOwn (model X.prog X.w) X.A X.env X.xe) (hc : X.calm = true) (hi : PI X tg iter wi) (hg : PG X tg g) (hb : GSs X body tb)
    (hs : ∀ x, foldedSetIterable iter X.env x = pure x := by intro _; rfl) : GS X (.For tg iter body [] pos) (tGFor wi g tb) := by
  refine ⟨fun A S ip R n ys s₀ c fs K J grd liv s σ H D gc hn k hI ht => ?_⟩
  obtain ⟨done, ver, r, I⟩ := hI
  rw [exec_For]
  refine seg_bind_wrap (wpAny_standAt ?_)
  refine seg_bind_wrap ?_
  rw [gc.over]
  refine wpAny_mono (hi.run _ s σ H _ I ht) (fun v s1 h1 => ?_) fun x s' gone => k.exc n s₀ x s' gone
  refine seg_bind_wrap (wpAny_of_eq (hs v) ?_)
  refine seg_bind_wrap (wpAny_standAt ?_)
  refine seg_bind_wrap (wpAny_holding ?_)
  rw [gc.over]
  refine wpAny_mono h1 (fun itv s2 h2 => ?_) fun x s' gone => k.exc n s₀ x s' gone
  obtain ⟨it, fp, tn, JJ, H2, e, I2, T, st2, f2, W, ⟨m0, w0⟩, turn⟩ := h2
  subst e
  refine seg_call fun p => ?_
  have gcl := fun (kk : Result → Sem PySem.Fin) => gc_loop (k := kk) (c' := .forLoop tg (.ref it) body [] X.env) (l := liv []) (kp := []) (p := p) gc rfl rfl
  -- what stays true of the iterator's objects
  have stat : ∀ {done' : Array Value} {c' : Nat} {H' : Hp}, (∀ b ∈ fp, H' b = none) → ∀ b ∈ fp, FpOk X ((S, lstObj done' c') :: ip) H' b := fun {done' c' H'} hn b hb => by
    obtain ⟨_, q1, q2, q3, q4, q5⟩ := f2 b hb
    refine ⟨hn b hb, q1, q2, q3, q4, fun p hp => ?_⟩
    rcases List.mem_append.mp hp with z | z
    · exact q5 p (List.mem_append_left _ z)
    · rcases List.mem_cons.mp z with z | z
      · subst z
        exact q5 (S, lstObj done ver) (List.mem_append_right _ List.mem_cons_self)
      · exact q5 p (List.mem_append_right _ (List.mem_cons_of_mem _ z))
  have loop : ∀ (m i n : Nat) (ys : List V) (s₀ s : Shared) (σ : L2.St) (H : Hp), n + ys.length = sizeLine → W i m ys σ H → GI X S ip ys σ H s → tn i s.heap → (∀ b ∈ fp, H b = none) →
      Seg (model X.prog X.w) A R (GY X S) n s₀ (.forLoop tg (.ref it) body [] X.env) ((model X.prog X.w).den (.forLoop tg (.ref it) body [] X.env))
        (.ret (fun r => ((match r with | .ok f => (.pure f : Sem Flow) | .error e => .raise e).onRaise (cameBack X.env)).wrap K J grd liv) none (grd false) (liv []) c p [] :: fs) s := by
    intro m
    induction m using Nat.strongRecOn with
    | ind m ih =>
      intro i n ys s₀ s σ H hn w hI st fr
      have ee : ∀ (n : Nat) (s₀ : Shared) (x : Value) (s' : Shared), X.xe x s' → Seg (model X.prog X.w) A R (GY X S) n s₀ (.forLoop tg (.ref it) body [] X.env) (goneBy X.env x)
          (.ret (fun r => ((match r with | .ok f => (.pure f : Sem Flow) | .error e => .raise e).onRaise (cameBack X.env)).wrap K J grd liv) none (grd false) (liv []) c p [] :: fs) s' := fun n s₀ x s' gone => by
        refine seg_wrap ?_
        rw [(gcl _).over]
        refine wpAny_bind (wpAny_mono (hp x s' gone) (fun _ s'' back => wpAny_theTreesLotGoes ?_) fun y s'' back => ?_)
        · exact seg_leaf (.error x) (seg_cameBack gc k back)
        · exact seg_leaf (.error y) (seg_cameBack gc k back)
      refine seg_forLoop ?_
      rw [(gcl _).over]
      obtain ⟨done', ver', r', I⟩ := hI
      rcases turn i m ys σ H w with ⟨stop, qn⟩ | ⟨go, N, hN, step⟩
      · refine wpAny_mono (T.done X rfl rfl rfl hc i _ s σ H X.xe I (stat fr) st stop) (fun r4 s4 ⟨hr, I4⟩ => ?_) fun x s' gone => ee n s₀ x s' gone
        subst hr
        exact seg_leaf (.ok .next) (k.ok n ys s₀ s4 .next hn ⟨σ, H, ⟨done', ver', r', I4⟩, qn⟩)
      · refine wpAny_mono (T.item X rfl rfl rfl hc i _ s σ H X.xe I (stat fr) st go) (fun r4 s4 ⟨u, hr, h4⟩ => ?_) fun x s' gone => ee n s₀ x s' gone
        subst hr
        refine wpAny_mono h4 (fun _ s5 ⟨x, H5, I5, r5, y5, st5, fr5⟩ => ?_) fun x s' gone => ee n s₀ x s' gone
        have I5' := I5.pinned (stat fr5) (T.obj _ _ st5)
        refine wpAny_mono (hg.run _ s5 σ H5 x u _ I5' r5 (step x H5 y5)) (fun _ s6 ⟨σ6, H6, I6, q6⟩ => ?_) fun x s' gone => ee n s₀ x s' gone
        have gl2 : ∀ kk, GC X S (ip ++ pinsAt fp s5.heap) A (.forLoop tg (.ref it) body [] X.env) (.ret kk none (grd false) (liv []) c p [] :: fs) id := fun kk =>
          { gcl kk with
            ip := fun p hp => (List.mem_append.mp hp).elim (gc.ip p) fun z => by
              have q5 := (stat (done' := done') (c' := ver') fr5 p.1 (of_pinsAt z).1).2.2.2.2.2
              exact fun z => q5 (S, lstObj done' ver') (List.mem_append_right _ List.mem_cons_self) z.symm }
        have unp : ∀ {ys' : List V} {σ' : L2.St} {H' : Hp} {s' : Shared}, GI X S (ip ++ pinsAt fp s5.heap) ys' σ' H' s' → GI X S ip ys' σ' H' s' := fun {ys' σ' H' s'} ⟨a, b, q, J⟩ => ⟨a, b, q, Inv.unpinned (pins := (S, lstObj a b) :: ip) (pl := pinsAt fp s5.heap) J⟩
        refine hb.run A S (ip ++ pinsAt fp s5.heap) R n ys s₀ _ _ (turnTo (.forLoop tg (.ref it) body [] X.env)) (goneBy X.env) id id s6 σ6 H6 { D with nx := N, ct := N, bk := D.nx } (gl2 _) hn ⟨fun n' ys' s₀' s7 f hn' hs7 => ?_, fun n' s₀' x s7 gone => ee n' s₀' x s7 gone⟩ ⟨done', ver', r', I6⟩ q6
        have again : ∀ {σ7 : L2.St} {H7 : Hp}, GI X S (ip ++ pinsAt fp s5.heap) ys' σ7 H7 s7 → N ys' σ7 H7 →
            Seg (model X.prog X.w) A R (GY X S) n' s₀' (.forLoop tg (.ref it) body [] X.env) (.pure (.again (.forLoop tg (.ref it) body [] X.env)))
            (.ret (fun r => ((match r with | .ok f => (.pure f : Sem Flow) | .error e => .raise e).onRaise (cameBack X.env)).wrap K J grd liv) none (grd false) (liv []) c p [] :: fs) s7 := fun {σ7 H7} I7 n7 => by
          obtain ⟨m', hm, w7⟩ := hN ys' σ7 H7 n7
          have pin7 : ∀ b ∈ fp, ∀ o, s5.heap.get? b = some o → s7.heap.get? b = some o ∧ H7 b = none := fun b hb o e => by
            obtain ⟨a, b', q, J7⟩ := I7
            have z := J7.pin (b, o) (List.mem_append_right _ (List.mem_cons_of_mem _ (List.mem_append_right _ (mem_pinsAt hb e))))
            exact ⟨z.1, z.2.1⟩
          refine seg_again rfl (ih m' hm (i + 1) n' ys' s₀' s7 σ7 H7 hn' w7 (unp I7) (T.keep _ _ _ st5 fun b hb o e => (pin7 b hb o e).1) fun b hb => ?_)
          obtain ⟨o, e, d⟩ := T.obj _ _ st5 b hb
          exact (pin7 b hb o e).2
        cases f with
        | next => obtain ⟨σ7, H7, I7, n7⟩ := hs7; exact again I7 n7
        | cont => obtain ⟨σ7, H7, I7, n7⟩ := hs7; exact again I7 n7
        | brk => obtain ⟨σ7, H7, I7, q7⟩ := hs7; exact seg_leaf (.ok .next) (k.ok n' ys' s₀' s7 .next hn' ⟨σ7, H7, unp I7, q7⟩)
        | ret v => obtain ⟨x7, σ7, H7, I7, rr, q7⟩ := hs7; exact seg_leaf (.ok (.ret v)) (k.ok n' ys' s₀' s7 (.ret v) hn' ⟨x7, σ7, H7, unp I7, rr, q7⟩)
  exact loop m0 0 n ys s₀ s2 σ H2 hn w0 ⟨done, ver, r, I2⟩ st2 fun b hb => (f2 b hb).1
end
end K61
/-! Reader.rest, listed. -/
namespace K61
open PySem L2
/-- xs are the first that a reader at q gives, behind them it stands at q' -/
def Pre (n m t q : Int) (xs : List (Int × Int)) (q' : Int) : Prop := ∀ k, reads n m t (xs.length + k) q = (xs ++ (reads n m t k q').1, (reads n m t k q').2)
theorem Pre.nil {n m t q : Int} : Pre n m t q [] q := fun k => by
  show reads n m t (0 + k) q = _
  rw [Nat.zero_add]
  rfl
theorem reads_some {n m t q : Int} {x : Int × Int} {k : Nat} (h : due n m t q = some x) : reads n m t (k + 1) q = (x :: (reads n m t k (q + x.1 + 1)).1, (reads n m t k (q + x.1 + 1)).2) := by
  show (match due n m t q with | none => ([], q) | some x => _) = _
  rw [h]
theorem reads_none {n m t q : Int} {k : Nat} (h : due n m t q = none) : reads n m t k q = ([], q) := by
  cases k with
  | zero => rfl
  | succ k =>
    show (match due n m t q with | none => ([], q) | some x => _) = _
    rw [h]
theorem Pre.step {n m t q qi : Int} {xs : List (Int × Int)} {x : Int × Int} (p : Pre n m t q xs qi) (h : due n m t qi = some x) : Pre n m t q (xs ++ [x]) (qi + x.1 + 1) := fun k => by
  have e : (xs ++ [x]).length + k = xs.length + (k + 1) := by rw [List.length_append, List.length_singleton]; omega
  rw [e, p (k + 1), reads_some h, List.append_assoc]
  rfl
theorem Pre.all {n m t q qi : Int} {xs : List (Int × Int)} (p : Pre n m t q xs qi) : reads n m t xs.length q = (xs, qi) := by
  have := p 0
  rw [Nat.add_zero] at this
  rw [this]
  show (xs ++ [], qi) = (xs, qi)
  rw [List.append_nil]
theorem Pre.stop {n m t q qi : Int} {xs : List (Int × Int)} (p : Pre n m t q xs qi) (h : due n m t qi = none) {k : Nat} (hk : xs.length ≤ k) : reads n m t k q = (xs, qi) := by
  obtain ⟨j, rfl⟩ := Nat.exists_eq_add_of_le hk
  rw [p j, reads_none h, List.append_nil]
def spRest (CL CR : Addr) : SpG := fun vs H Q _ => ∃ x dx b db m n t q L, vs = [.ref x, .int L] ∧ H x = some (.ins CR dx (rdF b q)) ∧ H b = some (.ins CL db (lgF m n t)) ∧ Good n m t q ∧ 0 ≤ L ∧ L ≤ 100 ∧
  ∀ H' rs, (∀ c o, c ≠ x → H c = some o → H' c = some o) → H' x = some (.ins CR dx (rdF b (reads n m t L.toNat q).2)) → TupsAt H' rs (reads n m t L.toNat q).1 → Q rs H'
theorem TupsAt.length {H : Hp} {rs : List V} {ys : List (Int × Int)} (h : TupsAt H rs ys) : rs.length = ys.length := Paired.length h
section
variable {P : Program} {w : World} {K : PySem.W.Frag} {mg : Str → Option Value} {base : Heap} {f CL CR CF CS : Addr} {fd : FuncData}
theorem scRest : GScope ["self", "limit", "k", "found"] ["self", "limit"] (defScope tRdRest) := ⟨rfl, rfl, rfl, by decide +kernel, rfl, by decide +kernel, by decide +kernel⟩
theorem ok_rest (F : Fun K "rest" "Reader.rest" tRdRest f fd) (T : Txt K mg CL CR CF CS) (D : Mth1 P w K mg base 5 CR "__call__" ["self"] (spCall CL CR)) : GFn P w K mg base 6 f fd ["self", "limit"] (spRest CL CR) := by
  obtain ⟨ocl, odi, kwV, docV, modV, ann, cdv, ctor, slo, rfl, lk, hcd⟩ := F.ex
  refine gfn_of lk hcd scRest (fun vs H Q E h => ?_) fun A outer s H vs Q E pn hr h => ?_
  · obtain ⟨x, dx, b, db, m, n, t, q, L, rfl, _⟩ := h
    rfl
  · obtain ⟨x, dx, b, db, m, n, t, q, L, rfl, ex, eb, g, l0, l1, k⟩ := h
    have nd := scRest.nd
    refine ⟨_, gss_cons (gs_for owns_gcx rfl (pi_range1 rfl T.range (pa_cons (pv 1) pa_nil)) (pg_name (i := 2) nd rfl (Or.inl rfl))
      (gss_cons (gs_ps (ps_set (i := 3) nd rfl (Or.inl rfl) (pe_callOwn (pv 0) D hr)))
      (gss_cons (gs_ps (ps_if (pt_cmpR op_isN (pv 3) pe_non (nomark _)) (pss_one ps_retN) pss_nil))
      (gss_cons (gs_yield (pv 3)) gss_nil)))) gss_nil, ?_⟩
    have nbx : b ≠ x := ne_of eb ex (by intro z; injection z with _ _ z; cases z)
    refine ⟨_, rfl, L, rfl, by omega, by omega, ?_⟩
    refine ⟨fun i mm ys σ H' => mm = L.toNat - i ∧ i ≤ L.toNat ∧ ∃ (v2 v3 : Option V) (qi : Int) (xs : List (Int × Int)), σ = [some (.ref x), some (.int L), v2, v3] ∧ xs.length = i ∧ Pre n m t q xs qi ∧ TupsAt H' ys xs ∧
      Good n m t qi ∧ H' x = some (.ins CR dx (rdF b qi)) ∧ (∀ c o, c ≠ x → H c = some o → H' c = some o), ⟨L.toNat, by omega, Nat.zero_le _, none, none, q, [], rfl, rfl, .nil, .nil, g, ex, fun c o _ e => e⟩, ?_⟩
    rintro i mm ys σ H' ⟨rfl, hi, v2, v3, qi, xs, rfl, hx, pr, ta, gi, ex', kp⟩
    by_cases hlt : i < L.toNat
    · refine .inr ⟨hlt, fun ys' σ' H2 => (i + 1 ≤ L.toNat ∧ ∃ (v2 v3 : Option V) (qi : Int) (xs : List (Int × Int)), σ' = [some (.ref x), some (.int L), v2, v3] ∧ xs.length = i + 1 ∧ Pre n m t q xs qi ∧ TupsAt H2 ys' xs ∧
        Good n m t qi ∧ H2 x = some (.ins CR dx (rdF b qi)) ∧ (∀ c o, c ≠ x → H c = some o → H2 c = some o)), fun ys' σ' H2 hN => ⟨L.toNat - (i + 1), by omega, rfl, hN⟩, fun y H1 hy => ?_⟩
      obtain ⟨rfl, rfl⟩ := hy
      have eb' := kp b _ nbx eb
      refine ⟨_, rfl, x, dx, _, rfl, ex', x, dx, b, db, m, n, t, qi, rfl, ex', eb', gi, fun hd => ?_, fun l v hd p hp => ?_⟩
      · refine ⟨_, rfl, rfl, _, rfl, iteT ?_⟩
        refine ⟨rfl, k _ _ kp ?_ ?_⟩
        · rw [pr.stop hd (by omega)]
          exact ex'
        · rw [pr.stop hd (by omega)]
          exact ta
      · refine ⟨_, rfl, rfl, _, rfl, iteF ?_⟩
        have nxp : x ≠ p := ne_of_none upd_same hp
        have hp' : H1 p = none := by rw [upd_ne (Ne.symm nxp)] at hp; exact hp
        refine ⟨?_, _, rfl, hlt, _, _, _, xs ++ [(l, v)], rfl, ?_, pr.step hd, ?_, due_good gi hd, ?_, fun c o hc e => ?_⟩
        · have := ta.length
          show ys.length < sizeLine
          exact small1000 (by omega)
        · rw [List.length_append, List.length_singleton, hx]
        · have t1 : TupsAt (upd (upd H1 x (.ins CR dx (rdF b (qi + l + 1)))) p (.tup [.int l, .int v])) ys xs := ta.same fun a zs e => by
            have a1 : a ≠ x := fun z => by rw [z, ex'] at e; cases e
            have a2 : a ≠ p := ne_of_none e hp'
            rw [upd_ne a2, upd_ne a1]
            exact e
          exact Paired.snoc t1 ⟨p, rfl, upd_same⟩
        · rw [upd_ne nxp, upd_same]
        · rw [upd_ne (ne_of_none (kp c o hc e) hp'), upd_ne hc]
          exact kp c o hc e
    · have e : i = L.toNat := by omega
      refine .inl ⟨by show L.toNat ≤ i; omega, ?_⟩
      refine k _ _ kp ?_ ?_
      · rw [← e, ← hx, pr.all]
        exact ex'
      · rw [← e, ← hx, pr.all]
        exact ta
end
end K61
/-! Reader.rest between its reads, while its consumer goes on. -/
namespace K61
open PySem PySem.Spec PyProof.Rows L2 GenW
/-- the generator's context over a base state -/
def rX (P : Program) (w : World) (K : PySem.W.Frag) (mg : Str → Option Value) (base : Heap) (f : Addr) (cdv : Value) (A : Around) (outer : List Env) (a0 : Addr) (H : Hp) (pn : List (Addr × Obj)) (s1 : Shared) : Cx where
  prog := P
  w := w
  K := K
  mg := mg
  base := base
  A := A.deeper (envOfC "Reader.rest" (defScope tRdRest) a0 f cdv)
  N := ["self", "limit", "k", "found"]
  s_0 := s1
  H_0 := H
  env := envOfC "Reader.rest" (defScope tRdRest) a0 f cdv
  outer := outer
  stack := envOfC "Reader.rest" (defScope tRdRest) a0 f cdv :: outer
  ex := []
  fn := fun _ => true
  calm := true
  pn := pn
  xe := fun _ _ => False
/-! ### a frame below is written while the generator sleeps -/
theorem ff_swap {h h' base : Heap} (k : ∀ b o, h.get? b = some o → (∀ vs, o.data ≠ .fields vs) → ∃ o', h'.get? b = some o' ∧ ∀ vs, o'.data ≠ .fields vs) : ∀ {l : List Env}, h.FunFrames base l → h'.FunFrames base l := by
  intro l
  induction l with
  | nil => exact fun _ => trivial
  | cons env rest ih =>
    rintro ⟨hk, ⟨L, o, hf, hn, ho, hd⟩, hr⟩
    obtain ⟨o', ho', hd'⟩ := k L o ho hd
    exact ⟨hk, ⟨L, o', hf, hn, ho', hd'⟩, ih hr⟩
theorem un_swap {fs : List Addr} {H0 H : Hp} {h1 h h1' h' : Heap} {Lc : Addr} {o o1 : Obj} (u : Un fs [] H0 H h1 h) (hL : Lc ∈ fs) (n0 : H0 Lc = none) (q1 : h1.get? Lc = some o1) (e1 : ∀ b, b ≠ Lc → h1'.get? b = h1.get? b) (e1L : h1'.get? Lc = some o)
    (e2 : ∀ b ob, b ≠ Lc → h.get? b = some ob → h'.get? b = some ob) (e2L : h'.get? Lc = some o) : Un fs [] H0 H h1' h' where
  keep := fun b ob q n hb hx => by
    have nb : b ≠ Lc := fun z => hb (z ▸ hL)
    exact e2 b ob nb (u.keep b ob ((e1 b nb).symm.trans q) n hb hx)
  slot := fun b ob q n hb hx => by
    by_cases nb : b = Lc
    · subst nb
      rw [e1L] at q
      cases q
      exact ⟨_, e2L⟩
    · obtain ⟨sl, z⟩ := u.slot b ob ((e1 b nb).symm.trans q) n hb hx
      exact ⟨sl, e2 b _ nb z⟩
  free := fun b ob q n hx => by
    by_cases nb : b = Lc
    · subst nb
      exact u.free _ o1 q1 n hx
    · exact u.free b ob ((e1 b nb).symm.trans q) n hx
  there := fun b ob q hx => by
    by_cases nb : b = Lc
    · subst nb
      exact ⟨_, e2L⟩
    · obtain ⟨o', z⟩ := u.there b ob ((e1 b nb).symm.trans q) hx
      exact ⟨o', e2 b _ nb z⟩
  tups := u.tups
  frzs := u.frzs
  tbls := u.tbls
theorem hok_swap {P : Program} {w : World} {H : Hp} {h h' : Heap} {Lc : Addr} (x : HOk P w H h) (n : H Lc = none) (e2 : ∀ b ob, b ≠ Lc → h.get? b = some ob → h'.get? b = some ob) : HOk P w H h' := fun b u q => by
  refine (x b u q).stay (fun c v hc y => e2 c v ?_ y) (fun _ y => y) fun _ _ y => y
  rintro rfl
  rcases hc with z | z
  · rw [← z, n] at q; cases q
  · rw [n] at z; cases z
section
variable {P : Program} {w : World} {K : PySem.W.Frag} {mg : Str → Option Value} {base : Heap} {f : Addr} {cdv : Value} {A : Around} {outer : List Env} {a0 : Addr} {H0 : Hp} {pn : List (Addr × Obj)}
theorem inv_swap {s1 s : Shared} {pins : List (Addr × Obj)} {σ : L2.St} {H : Hp} {Lc : Addr} {o : Obj} {h1' hm : Heap} (I : Inv (rX P w K mg base f cdv A outer a0 H0 pn s1) pins σ H s) (hL : Lc ∈ frs outer) (sz : h1'.objs.size = s1.heap.objs.size)
    (e1 : ∀ b, b ≠ Lc → h1'.get? b = s1.heap.get? b) (e1L : h1'.get? Lc = some o) (e2 : ∀ b ob, b ≠ Lc → s.heap.get? b = some ob → hm.get? b = some ob) (e2L : hm.get? Lc = some o) (nf : ∀ vs, o.data ≠ .fields vs) :
    Inv (rX P w K mg base f cdv A outer a0 H0 pn { s1 with heap := h1' }) pins σ H { s with heap := hm } := by
  have fu : s1.heap.FunFrames base outer := I.ok.funs
  obtain ⟨hLb, oL, heL, _⟩ := fu.mem hL
  have n0 : H0 Lc = none := I.ok.frf Lc hL
  have ab : s1.heap.objs.size ≤ a0 := I.ok.above
  have nLoc : Lc ≠ a0 := Nat.ne_of_lt (Nat.lt_of_lt_of_le (Heap.lt_size heL) ab)
  have nH : H Lc = none := I.base.free Lc oL heL n0 (by intro z; cases z)
  have cne : ∀ y c, (rX P w K mg base f cdv A outer a0 H0 pn s1).env.cells.lookup y = some c → c ≠ Lc := fun y c e z => by
    have h1 : s1.heap.objs.size ≤ c := I.ok.cab y c rfl e
    have h2 := Heap.lt_size heL
    rw [z] at h1
    exact absurd (Nat.lt_of_lt_of_le h2 h1) (Nat.lt_irrefl _)
  have ok' : (rX P w K mg base f cdv A outer a0 H0 pn { s1 with heap := h1' }).Ok :=
   { mod := I.ok.mod
     kind := I.ok.kind
     glob := I.ok.glob
     blt := I.ok.blt
     above := (by show h1'.objs.size ≤ a0; rw [sz]; exact ab)
     inj := I.ok.inj
     has := I.ok.has
     cab := fun y c z e => (by show h1'.objs.size ≤ c; rw [sz]; exact I.ok.cab y c z e)
     hd := I.ok.hd
     frames := I.ok.frames
     stk := I.ok.stk
     exf := I.ok.exf
     bs := fun b ob e => ⟨(e1 b (fun z => (by have e' : base.get? b = some ob := e; rw [z, hLb] at e'; cases e'))).trans (I.ok.bs b ob e).1, (I.ok.bs b ob e).2⟩
     bsz := (by show base.objs.size ≤ h1'.objs.size; rw [sz]; exact I.ok.bsz)
     noex := I.ok.noex
     exfs := I.ok.exfs
     funs := ff_swap (fun b ob e hd => (by
       by_cases nb : b = Lc
       · subst nb
         exact ⟨o, e1L, nf⟩
       · exact ⟨ob, (e1 b nb).trans e, hd⟩)) fu
     frf := I.ok.frf }
  refine ⟨ok', I.os, I.bare, un_swap I.base hL n0 heL e1 e1L e2 e2L, ?_, fun y c e => ?_, I.free, I.freeC, fun p hp => ?_, hok_swap I.hok nH e2, I.len⟩
  · obtain ⟨m, hn, hl⟩ := I.loc
    refine ⟨m, hn.at' fun ob e => e2 _ ob (Ne.symm nLoc) e, fun i y v q1 q2 q3 => ?_⟩
    obtain ⟨u, r, l⟩ := hl i y v q1 q2 q3
    refine ⟨u, r, ?_⟩
    rcases l with l | ⟨k, c, e, oc, ho, hd⟩
    · exact .inl l
    · exact .inr ⟨k, c, e, oc, e2 c oc (cne y c e) ho, hd⟩
  · obtain ⟨v, oc, ho, hd⟩ := I.cell y c e
    exact ⟨v, oc, e2 c oc (cne y c e) ho, hd⟩
  · obtain ⟨h1, h2, h3, h4, h5⟩ := I.pin p hp
    exact ⟨e2 _ _ (fun z => h4 (by rw [z]; exact hL)) h1, h2, h3, h4, h5⟩
end
/-! ### what goes between the generator and its consumer -/
structure RC where
  CL : Addr
  CR : Addr
  x : Addr
  dx : Addr
  b : Addr
  db : Addr
  m : Int
  n : Int
  t : Int
  q : Int
  L : Nat
  D : Addr
  Lc : Addr
structure RAt (c : RC) (H0 H : Hp) (xs : List (Int × Int)) (qi : Int) (rs : List V) : Prop where
  pre : Pre c.n c.m c.t c.q xs qi
  good : Good c.n c.m c.t qi
  rd : H c.x = some (.ins c.CR c.dx (rdF c.b qi))
  kp : ∀ a o, a ≠ c.x → a ≠ c.D → H0 a = some o → H a = some o
  lst : H c.D = some (.lst rs)
  tup : TupsAt H rs xs
structure Virt (Lc : Addr) (sc sb s0 : Shared) : Prop where
  os : sb.os = sc.os
  sz : sb.heap.objs.size = sc.heap.objs.size
  off : ∀ b, b ≠ Lc → sb.heap.get? b = sc.heap.get? b
  at_ : sb.heap.get? Lc = s0.heap.get? Lc
def LenAt (D : Addr) (k : Nat) (s : Shared) : Prop := ∃ (acc : Array Value) (c : Nat), s.heap.get? D = some (lstObj acc c) ∧ acc.size = k
structure RGen (c : RC) (P : Program) (w : World) (outer : List Env) (H0 : Hp) (sc : Shared) (a g : Nat) (s₀ s1 : Shared) (H : Hp) (k : Nat) : Prop where
  vir : ∃ sb, Virt c.Lc sc sb s₀ ∧ Un (frs outer) [] H0 H sb.heap s1.heap
  len : LenAt c.D k s₀
  hok : HOk P w H s1.heap
  os : s1.os = sc.os
  bare : AllBare s1.gens
  gen : s1.heap.IsGen a g
  lim : s1.heap.NoLimit
structure RWake (c : RC) (v : Value) (s s' : Shared) : Prop where
  os : s'.os = s.os
  bare : AllBare s'.gens
  mid : ∃ (hm : Heap) (o : Obj), (∀ b ob, b ≠ c.Lc → s.heap.get? b = some ob → hm.get? b = some ob) ∧ hm.get? c.Lc = some o ∧ (∀ vs, o.data ≠ .fields vs) ∧ (∀ b ob, b ≠ c.D → hm.get? b = some ob → s'.heap.get? b = some ob) ∧
    ∀ (its : Array Value) (k : Nat), hm.get? c.D = some (lstObj its k) → ∃ k', s'.heap.get? c.D = some (lstObj (its.push v) k')
def RY (c : RC) (P : Program) (w : World) (outer : List Env) (H0 : Hp) (sc : Shared) (a g : Nat) : Protocol := fun _ s₀ v s1 kap =>
  ∃ (H : Hp) (xs : List (Int × Int)) (x1 : Int × Int) (q' : Int) (rs : List V) (p : Addr), RGen c P w outer H0 sc a g s₀ s1 H xs.length ∧ v = .ref p ∧ H p = some (.tup [.int x1.1, .int x1.2]) ∧ H c.D = some (.lst rs) ∧ TupsAt H rs xs ∧
    Pre c.n c.m c.t c.q (xs ++ [x1]) q' ∧ Good c.n c.m c.t q' ∧ H c.x = some (.ins c.CR c.dx (rdF c.b q')) ∧ (∀ a o, a ≠ c.x → a ≠ c.D → H0 a = some o → H a = some o) ∧ ∀ s', RWake c (.ref p) s1 s' → kap (.send .none) s'
def RF (c : RC) (P : Program) (w : World) (outer : List Env) (H0 : Hp) (sc : Shared) (a g : Nat) (s₀ s1 : Shared) : Prop :=
  ∃ (H : Hp) (xs : List (Int × Int)) (q' : Int) (rs : List V), RGen c P w outer H0 sc a g s₀ s1 H xs.length ∧ RAt c H0 H xs q' rs ∧ (due c.n c.m c.t q' = none ∨ xs.length = c.L)
def RR (c : RC) (P : Program) (w : World) (outer : List Env) (H0 : Hp) (sc : Shared) (a g : Nat) : GenEnd := fun _ s₀ r s1 => ((r = .ok (.ret .none) ∨ r = .ok .next) ∧ RF c P w outer H0 sc a g s₀ s1) ∨ ∃ e, r = .error e ∧ (fun (_ : Value) (_ : Shared) => False) e s1
section
variable {c : RC} {P : Program} {w : World} {K : PySem.W.Frag} {mg : Str → Option Value} {base : Heap} {f : Addr} {cdv : Value} {A : Around} {outer : List Env} {a0 : Addr} {H0 : Hp} {sc : Shared} {a g : Nat} {go : Obj}
/-- behind a wake-up -/
theorem woken {s₀ s1 s s' : Shared} {σ : L2.St} {H : Hp} {xs : List (Int × Int)} {x1 : Int × Int} {q' : Int} {rs : List V} {p : Addr} (hL : c.Lc ∈ frs outer) (I : Inv (rX P w K mg base f cdv A outer a0 H0 [(a, go)] s1) [] σ H s) (hv : Virt c.Lc sc s1 s₀)
    (hp : H p = some (.tup [.int x1.1, .int x1.2])) (hD : H c.D = some (.lst rs)) (ht : TupsAt H rs xs) (hpre : Pre c.n c.m c.t c.q (xs ++ [x1]) q') (hg : Good c.n c.m c.t q') (hx : H c.x = some (.ins c.CR c.dx (rdF c.b q')))
    (kp : ∀ a o, a ≠ c.x → a ≠ c.D → H0 a = some o → H a = some o) (hl : rs.length < sizeLine) (z : RWake c (.ref p) s s') :
    ∃ s1', Virt c.Lc sc s1' s' ∧ LenAt c.D (xs.length + 1) s' ∧ Inv (rX P w K mg base f cdv A outer a0 H0 [(a, go)] s1') [] σ (upd H c.D (.lst (rs ++ [.ref p]))) s' ∧ RAt c H0 (upd H c.D (.lst (rs ++ [.ref p]))) (xs ++ [x1]) q' (rs ++ [.ref p]) ∧
      (∀ b, H b = none → b ≠ c.D) ∧ ∀ b o, b ≠ c.Lc → b ≠ c.D → s.heap.get? b = some o → s'.heap.get? b = some o := by
  obtain ⟨os, bare, hm, o, m1, m2, nf, m3, m4⟩ := z
  have fu : s1.heap.FunFrames base outer := I.ok.funs
  obtain ⟨hLb, oL, heL, _⟩ := fu.mem hL
  have n0 : H0 c.Lc = none := I.ok.frf c.Lc hL
  have nH : H c.Lc = none := I.base.free c.Lc oL heL n0 (by intro z; cases z)
  have nLD : c.D ≠ c.Lc := fun z => by rw [z, nH] at hD; cases hD
  have fr : o.isFreed = false := (Heap.get?_some_iff.mp m2).2
  have u1 : ∀ b, b ≠ c.Lc → (s1.heap.update c.Lc (fun _ => o)).get? b = s1.heap.get? b := fun b hb => Heap.get?_update_other _ _ (Ne.symm hb)
  have u2 : (s1.heap.update c.Lc (fun _ => o)).get? c.Lc = some o := Heap.get?_update_self (fun _ => o) heL fr
  have uz : (s1.heap.update c.Lc (fun _ => o)).objs.size = s1.heap.objs.size := Heap.size_after_update ..
  have I1 := inv_swap (h1' := s1.heap.update c.Lc (fun _ => o)) (hm := hm) I hL uz u1 u2 m1 m2 nf
  obtain ⟨zl, its, n0', rv, eD⟩ := I1.hok c.D _ hD
  obtain ⟨k', eD'⟩ := m4 _ _ eD
  have eD2 : s'.heap.get? c.D = some { cls := .type "list", data := .seq (its ++ [Value.ref p]).toArray k' } := by
    rw [eD']
    show some (lstObj (its.toArray.push (.ref p)) k') = _
    have e : its.toArray.push (Value.ref p) = (its ++ [Value.ref p]).toArray := by simp
    rw [e]
  have hlen := rv.length
  have new : ObjOk P w (upd H c.D (.lst (rs ++ [.ref p]))) s'.heap c.D (.lst (rs ++ [.ref p])) := by
    refine ⟨?_, its ++ [.ref p], k', rv.append (.cons (show RelV (V.ref p) (Value.ref p) from rfl) .nil), eD2⟩
    rw [List.length_append, List.length_singleton]
    omega
  have mu : Mut (H c.D) := by rw [hD]; exact trivial
  have wr : HOk P w (upd H c.D (.lst (rs ++ [.ref p]))) s'.heap := HOk.write I1.hok mu (.inl rfl) m3 ⟨_, eD2⟩ new
  have I2 := I1.call' (ch := []) (s' := s') os (Un.write mu (.inl rfl) m3 ⟨_, eD2⟩) wr bare (fun b hb => by cases hb)
  refine ⟨{ s1 with heap := s1.heap.update c.Lc (fun _ => o) }, ⟨hv.os, uz.trans hv.sz, fun b hb => (u1 b hb).trans (hv.off b hb), ?_⟩, ⟨_, _, eD', ?_⟩, I2, ⟨hpre, hg, ?_, fun a' o' h1 h2 e => ?_, upd_same, ?_⟩, fun b hb z => ?_, fun b ob h1 h2 e => m3 b ob h2 (m1 b ob h1 e)⟩
  · show (s1.heap.update c.Lc (fun _ => o)).get? c.Lc = s'.heap.get? c.Lc
    rw [u2, m3 _ _ (Ne.symm nLD) m2]
  · rw [Array.size_push, List.size_toArray, ← hlen, ht.length]
  · rw [upd_ne (ne_of hx hD (by intro z; cases z))]
    exact hx
  · rw [upd_ne h2]
    exact kp a' o' h1 h2 e
  · have t1 : TupsAt (upd H c.D (.lst (rs ++ [.ref p]))) rs xs := ht.same fun a' zs e => by
      rw [upd_ne (ne_of e hD (by intro z; cases z))]
      exact e
    exact Paired.snoc t1 ⟨p, rfl, by rw [upd_ne (ne_of hp hD (by intro z; cases z))]; exact hp⟩
  · rw [z, hD] at hb
    cases hb
end
end K61
/-! Reader.rest's loop between the reads. -/
namespace K61
open PySem PySem.Spec PyProof.Rows L2 GenW
section
variable {c : RC} {P : Program} {w : World} {K : PySem.W.Frag} {mg : Str → Option Value} {base : Heap} {f : Addr} {cdv : Value} {A : Around} {outer : List Env} {a0 : Addr} {H0 : Hp} {sc : Shared} {a g : Nat} {go : Obj}
theorem rest_loop {tg e : Expr} {st1 st2 : Stmt} {yp yp2 : Pos} {t1 t2 : TS} {it : Addr} {fp : List Addr} {tn : Nat → Heap → Prop} {cc : Code} {kont : Result → Sem PySem.Fin} {lv : List Value} {pp : Pos}
    (hL : c.Lc ∈ frs outer) (hb0 : c.b ≠ c.D) (hbx : c.b ≠ c.x) (hlg : H0 c.b = some (.ins c.CL c.db (lgF c.m c.n c.t))) (hgen : ∀ h : Heap, h.get? a = some go → h.IsGen a g) (hLs : c.L ≤ 1000)
    (hov : A.over (.forLoop tg (.ref it) [st1, st2, .Expr (.Yield (some e) yp) yp2] [] (rX P w K mg base f cdv A outer a0 H0 [(a, go)] sc).env) (.ret kont none false lv cc pp [] :: []) = (rX P w K mg base f cdv A outer a0 H0 [(a, go)] sc).A)
    (T : Turn P w K tg (Itr 0 c.L) fp it tn)
    (hfp : ∀ b ∈ fp, b ≠ a0 ∧ b ∉ frs outer ∧ sc.heap.objs.size ≤ b ∧ b ≠ c.D ∧ b ≠ c.Lc ∧ (∀ x cl, (rX P w K mg base f cdv A outer a0 H0 [(a, go)] sc).env.cells.lookup x = some cl → cl ≠ b) ∧ a ≠ b)
    (hg : ∀ s1, PG (rX P w K mg base f cdv A outer a0 H0 [(a, go)] s1) tg (gName 2))
    (h1 : ∀ s1, PS (rX P w K mg base f cdv A outer a0 H0 [(a, go)] s1) st1 t1) (h2 : ∀ s1, PS (rX P w K mg base f cdv A outer a0 H0 [(a, go)] s1) st2 t2) (h3 : ∀ s1, PE (rX P w K mg base f cdv A outer a0 H0 [(a, go)] s1) e (tVar 3))
    (hstep : ∀ (v2 v3 : Option V) (qi : Int) (H : Hp) (D : Ends), Good c.n c.m c.t qi → H c.x = some (.ins c.CR c.dx (rdF c.b qi)) → H c.b = some (.ins c.CL c.db (lgF c.m c.n c.t)) → (due c.n c.m c.t qi = none → D.rt .non H) →
      (∀ l v, due c.n c.m c.t qi = some (l, v) → ∀ p, (upd H c.x (.ins c.CR c.dx (rdF c.b (qi + l + 1)))) p = none → D.nx [some (.ref c.x), some (.int c.L), v2, some (.ref p)] (upd (upd H c.x (.ins c.CR c.dx (rdF c.b (qi + l + 1)))) p (.tup [.int l, .int v]))) →
      tSeq t1 t2 D [some (.ref c.x), some (.int c.L), v2, v3] H)
    (hk1 : ∀ n s₀ s, RF c P w outer H0 sc a g s₀ s → Seg (model P w) A (RR c P w outer H0 sc a g) (RY c P w outer H0 sc a g) n s₀ cc (kont (.ok .next)) [] s)
    (hk2 : ∀ n s₀ s, RF c P w outer H0 sc a g s₀ s → Seg (model P w) A (RR c P w outer H0 sc a g) (RY c P w outer H0 sc a g) n s₀ cc (kont (.ok (.ret .none))) [] s) :
    ∀ (mm i n : Nat) (xs : List (Int × Int)) (qi : Int) (rs : List V) (v2 v3 : Option V) (s₀ s1 s : Shared) (H : Hp), c.L - i = mm → xs.length = i → i ≤ c.L → mm ≤ n → Virt c.Lc sc s1 s₀ → LenAt c.D i s₀ →
      Inv (rX P w K mg base f cdv A outer a0 H0 [(a, go)] s1) [] [some (.ref c.x), some (.int c.L), v2, v3] H s → RAt c H0 H xs qi rs → tn i s.heap → (∀ b ∈ fp, H b = none) →
      Seg (model P w) A (RR c P w outer H0 sc a g) (RY c P w outer H0 sc a g) n s₀ (.forLoop tg (.ref it) [st1, st2, .Expr (.Yield (some e) yp) yp2] [] (rX P w K mg base f cdv A outer a0 H0 [(a, go)] sc).env)
        ((model P w).den (.forLoop tg (.ref it) [st1, st2, .Expr (.Yield (some e) yp) yp2] [] (rX P w K mg base f cdv A outer a0 H0 [(a, go)] sc).env)) (.ret kont none false lv cc pp [] :: []) s := by
  intro mm
  induction mm with
  | zero =>
    intro i n xs qi rs v2 v3 s₀ s1 s H hmm hxi hi hn hv hlen I ra st fr
    have stop : (Itr 0 c.L).stop i H := by show c.L ≤ i; omega
    have fpo : ∀ b ∈ fp, FpOk (rX P w K mg base f cdv A outer a0 H0 [(a, go)] s1) [] H b := fun b hb => by
      obtain ⟨q1, q2, q3, q4, q5, q6, q7⟩ := hfp b hb
      refine ⟨fr b hb, q1, q2, .inr (by show s1.heap.objs.size ≤ b; rw [hv.sz]; exact q3), q6, fun p hp => ?_⟩
      rw [List.append_nil] at hp
      rw [List.mem_singleton.mp hp]
      exact q7
    refine seg_forLoop ?_
    rw [hov]
    refine wpAny_mono (T.done (rX P w K mg base f cdv A outer a0 H0 [(a, go)] s1) rfl rfl rfl rfl i _ s _ H (fun _ _ => False) I fpo st stop) (fun r4 s4 ⟨hr, I4⟩ => ?_) fun x s' hx => hx.elim
    subst hr
    refine seg_leaf (.ok .next) (hk1 n s₀ s4 ⟨H, xs, qi, rs, ⟨⟨s1, hv, I4.base⟩, by rw [hxi]; exact hlen, I4.hok, I4.os.trans hv.os, I4.bare, hgen _ (I4.pin (a, go) (by show _ ∈ [(a, go)] ++ []; simp)).1, I4.nolimit⟩, ra, .inr (by omega)⟩)
  | succ mm ih =>
    intro i n xs qi rs v2 v3 s₀ s1 s H hmm hxi hi hn hv hlen I ra st fr
    obtain ⟨n, rfl⟩ : ∃ k, n = k + 1 := ⟨n - 1, by omega⟩
    have go' : (Itr 0 c.L).go i H := by show i < c.L; omega
    have fpo : ∀ {H' : Hp}, (∀ b ∈ fp, H' b = none) → ∀ b ∈ fp, FpOk (rX P w K mg base f cdv A outer a0 H0 [(a, go)] s1) [] H' b := fun {H'} fr b hb => by
      obtain ⟨q1, q2, q3, q4, q5, q6, q7⟩ := hfp b hb
      refine ⟨fr b hb, q1, q2, .inr (by show s1.heap.objs.size ≤ b; rw [hv.sz]; exact q3), q6, fun p hp => ?_⟩
      rw [List.append_nil] at hp
      rw [List.mem_singleton.mp hp]
      exact q7
    refine seg_forLoop ?_
    rw [hov]
    refine wpAny_mono (T.item (rX P w K mg base f cdv A outer a0 H0 [(a, go)] s1) rfl rfl rfl rfl i _ s _ H (fun _ _ => False) I (fpo fr) st go') (fun r4 s4 ⟨u, hr, h4⟩ => ?_) fun x s' hx => hx.elim
    subst hr
    refine wpAny_mono h4 (fun _ s5 ⟨y, H5, I5, r5, y5, st5, fr5⟩ => ?_) fun x s' hx => hx.elim
    obtain ⟨e5, ey⟩ := y5
    subst e5 ey
    have I5' := I5.pinned (fpo fr5) (T.obj _ _ st5)
    refine wpAny_mono ((hg s1).run _ s5 _ _ _ u (fun σ' H' => σ' = [some (.ref c.x), some (.int c.L), some (.int (0 + (i : Int))), v3] ∧ H' = H5) I5' r5 ⟨rfl, rfl⟩) (fun _ s6 ⟨σ6, H6, I6, e6, e7⟩ => ?_) fun x s' hx => hx.elim
    subst e6 e7
    have pinK : ∀ {σ7 : L2.St} {H7 : Hp} {s7 : Shared}, Inv (rX P w K mg base f cdv A outer a0 H0 [(a, go)] s1) ([] ++ pinsAt fp s5.heap) σ7 H7 s7 → ∀ b ∈ fp, ∀ o, s5.heap.get? b = some o → s7.heap.get? b = some o ∧ H7 b = none := fun {σ7 H7 s7} I7 b hb o eb => by
      have z := I7.pin (b, o) (List.mem_append_right _ (List.mem_append_right _ (mem_pinsAt hb eb)))
      exact ⟨z.1, z.2.1⟩
    have eb' : H6 c.b = some (.ins c.CL c.db (lgF c.m c.n c.t)) := ra.kp c.b _ hbx hb0 hlg
    -- the first two statements
    have both := hstep (some (.int (0 + (i : Int)))) v3 qi H6 { nx := fun σ' H' => ∃ l v p, due c.n c.m c.t qi = some (l, v) ∧ (upd H6 c.x (.ins c.CR c.dx (rdF c.b (qi + l + 1)))) p = none ∧ σ' = [some (.ref c.x), some (.int c.L), some (.int (0 + (i : Int))), some (.ref p)] ∧ H' = upd (upd H6 c.x (.ins c.CR c.dx (rdF c.b (qi + l + 1)))) p (.tup [.int l, .int v]), rt := fun v H' => v = .non ∧ H' = H6 ∧ due c.n c.m c.t qi = none } ra.good ra.rd eb' (fun hd => ⟨rfl, rfl, hd⟩) fun l v hd p hp => ⟨l, v, p, hd, hp, rfl, rfl⟩
    refine seg_execs_cons (seg_wrap ?_)
    rw [hov]
    refine wpAny_mono ((h1 s1).run _ s6 _ _ _ I6 both) (fun f7 s7 q7 => ?_) fun x s' hx => hx.elim
    cases f7 with
    | brk => obtain ⟨_, _, _, z⟩ := q7; exact z.elim
    | cont => obtain ⟨_, _, _, z⟩ := q7; exact z.elim
    | ret u7 =>
      obtain ⟨v7, σ7, H7, I7, r7, e7, e8, hd⟩ := q7
      subst e7 e8
      have eu : u7 = Value.none := r7
      subst eu
      have I7' := I7.unpinned
      refine seg_leaf (.ok (.ret .none)) (hk2 (n + 1) s₀ s7 ⟨H7, xs, qi, rs, ⟨⟨s1, hv, I7'.base⟩, by rw [hxi]; exact hlen, I7'.hok, I7'.os.trans hv.os, I7'.bare, hgen _ (I7'.pin (a, go) (by show _ ∈ [(a, go)] ++ []; simp)).1, I7'.nolimit⟩, ra, .inl hd⟩)
    | next =>
    obtain ⟨σ7, H7, I7, q7⟩ := q7
    refine seg_execs_cons (seg_wrap ?_)
    rw [hov]
    refine wpAny_mono ((h2 s1).run _ s7 _ _ _ I7 q7) (fun f8 s8 q8 => ?_) fun x s' hx => hx.elim
    cases f8 with
    | brk => obtain ⟨_, _, _, z⟩ := q8; exact z.elim
    | cont => obtain ⟨_, _, _, z⟩ := q8; exact z.elim
    | ret u7 =>
      obtain ⟨v7, σ7, H7, I7, r7, e7, e8, hd⟩ := q8
      subst e7 e8
      have eu : u7 = Value.none := r7
      subst eu
      have I7' := I7.unpinned
      refine seg_leaf (.ok (.ret .none)) (hk2 (n + 1) s₀ s8 ⟨H7, xs, qi, rs, ⟨⟨s1, hv, I7'.base⟩, by rw [hxi]; exact hlen, I7'.hok, I7'.os.trans hv.os, I7'.bare, hgen _ (I7'.pin (a, go) (by show _ ∈ [(a, go)] ++ []; simp)).1, I7'.nolimit⟩, ra, .inl hd⟩)
    | next =>
    obtain ⟨σ8, H8, I8, l, v, p, hd, hp, e8, e9⟩ := q8
    subst e8 e9
    refine seg_execs_cons (seg_Expr_Yield rfl rfl rfl ?_)
    rw [hov]
    refine wpAny_mono ((h3 s1).run _ s8 _ _ (fun y H' => y = .ref p ∧ H' = upd (upd H6 c.x (.ins c.CR c.dx (rdF c.b (qi + l + 1)))) p (.tup [.int l, .int v])) I8 ⟨_, rfl, rfl, rfl⟩) (fun u9 s9 ⟨y9, H9, I9, r9, e9, e10⟩ => ?_) fun x s' hx => hx.elim
    subst e9 e10
    have eu : u9 = Value.ref p := r9
    subst eu
    have I9' := I9.unpinned
    intro kap hk
    have nxp : c.x ≠ p := ne_of_none upd_same hp
    have hp6 : H6 p = none := by rw [upd_ne (Ne.symm nxp)] at hp; exact hp
    have nDp : c.D ≠ p := ne_of_none ra.lst hp6
    have nDx : c.D ≠ c.x := ne_of ra.lst ra.rd (by intro z; cases z)
    have pk : ∀ b o, b ≠ c.x → H6 b = some o → (upd (upd H6 c.x (.ins c.CR c.dx (rdF c.b (qi + l + 1)))) p (.tup [.int l, .int v])) b = some o := fun b o hbx e => by
      rw [upd_ne (ne_of_none e hp6), upd_ne hbx]; exact e
    have q9 : (upd (upd H6 c.x (.ins c.CR c.dx (rdF c.b (qi + l + 1)))) p (.tup [.int l, .int v])) p = some (.tup [.int l, .int v]) := upd_same
    have qD := pk c.D _ nDx ra.lst
    have qx : (upd (upd H6 c.x (.ins c.CR c.dx (rdF c.b (qi + l + 1)))) p (.tup [.int l, .int v])) c.x = some (.ins c.CR c.dx (rdF c.b (qi + l + 1))) := by rw [upd_ne nxp]; exact upd_same
    have tp : TupsAt (upd (upd H6 c.x (.ins c.CR c.dx (rdF c.b (qi + l + 1)))) p (.tup [.int l, .int v])) rs xs := ra.tup.same fun a' zs e => pk a' _ (ne_of e ra.rd (by intro z; cases z)) e
    have kp9 : ∀ a' o, a' ≠ c.x → a' ≠ c.D → H0 a' = some o → (upd (upd H6 c.x (.ins c.CR c.dx (rdF c.b (qi + l + 1)))) p (.tup [.int l, .int v])) a' = some o := fun a' o z1 z2 e => pk a' o z1 (ra.kp a' o z1 z2 e)
    have pr9 := ra.pre.step hd
    have gd9 := due_good ra.good hd
    refine ⟨_, xs, (l, v), qi + l + 1, rs, p, ⟨⟨s1, hv, I9'.base⟩, by rw [hxi]; exact hlen, I9'.hok, I9'.os.trans hv.os, I9'.bare, hgen _ (I9'.pin (a, go) (by show _ ∈ [(a, go)] ++ []; simp)).1, I9'.nolimit⟩, rfl, q9, qD, tp, pr9, gd9, qx, kp9, fun s' z => hk .none s' ?_⟩
    have rl : rs.length = i := by rw [ra.tup.length]; exact hxi
    obtain ⟨s1', hv', hlen', I', ra', hnD, keep'⟩ := woken hL I9' hv q9 qD tp pr9 gd9 qx kp9 (by rw [rl]; exact small1000 (by omega)) z
    have nb9 : ∀ b ∈ fp, ∃ o, s5.heap.get? b = some o := fun b hb => let ⟨o, e, _⟩ := T.obj _ _ st5 b hb; ⟨o, e⟩
    show Seg (model P w) A (RR c P w outer H0 sc a g) (RY c P w outer H0 sc a g) n s' _ (.pure (.again _)) _ s'
    refine seg_again rfl (ih (i + 1) n (xs ++ [(l, v)]) (qi + l + 1) (rs ++ [.ref p]) _ _ s' s1' s' _ (by omega) (by rw [List.length_append, List.length_singleton, hxi]) (by omega) (by omega) hv' (by rw [← hxi]; exact hlen') I' ra' ?_ ?_)
    · refine T.keep _ _ _ st5 fun b hb o eb => ?_
      obtain ⟨q1, q2, q3, q4, q5, _⟩ := hfp b hb
      exact keep' b o q5 q4 (pinK I9 b hb o eb).1
    · intro b hb
      obtain ⟨q1, q2, q3, q4, q5, _⟩ := hfp b hb
      obtain ⟨o, eb⟩ := nb9 b hb
      rw [upd_ne q4]
      exact (pinK I9 b hb o eb).2
end
end K61
/-! Reader.rest is called. -/
namespace K61
open PySem PySem.Spec PyProof.Rows L2 GenW
/-- the loop's target -/
def restTg : Expr := match defBody tRdRest with
  | .For t _ _ _ _ :: _ => t
  | _ => .Constant .none 0 ⟨0, 0, 0, 0⟩
/-- a generator of rest that has not begun -/
def RMade (c : RC) (P : Program) (w : World) (outer : List Env) (H0 : Hp) (sc : Shared) (u : Value) (s' : Shared) : Prop :=
  ∃ (a g : Nat) (cd : Code), u = .ref a ∧ sc.heap.objs.size ≤ a ∧ s'.heap.IsGen a g ∧ s'.gens[g]? = some (.fresh cd) ∧ s'.os = sc.os ∧ AllBare s'.gens ∧ s'.heap.NoLimit ∧ (∀ b o, sc.heap.get? b = some o → s'.heap.get? b = some o) ∧
    ∀ (Aw : Around) (s2 : Shared), Room 6 Aw → Aw.frames = some outer → (∀ b o, s'.heap.get? b = some o → s2.heap.get? b = some o) → s2.os = sc.os → AllBare s2.gens →
      Seg (model P w) Aw (RR c P w outer H0 sc a g) (RY c P w outer H0 sc a g) c.L s2 cd ((model P w).den cd) [] s2
section
variable {c : RC} {P : Program} {w : World} {K : PySem.W.Frag} {mg : Str → Option Value} {base : Heap} {f CL CR CF CS : Addr} {fd : FuncData}
theorem rest_call (F : Fun K "rest" "Reader.rest" tRdRest f fd) (T : Txt K mg CL CR CF CS) (D : Mth1 P w K mg base 5 CR "__call__" ["self"] (spCall CL CR)) (hCL : c.CL = CL) (hCR : c.CR = CR)
    {A : Around} {outer : List Env} {s : Shared} {H : Hp} {args : Args} {us : List Value} (hr : Room 6 A) (e0 : Env0 P w K mg base A outer s H) (hb : BindsTo s fd args ((["self", "limit"] : List Str).zip us)) (r : Vals [.ref c.x, .int c.L] us)
    (hx : H c.x = some (.ins c.CR c.dx (rdF c.b c.q))) (hlg : H c.b = some (.ins c.CL c.db (lgF c.m c.n c.t))) (gd : Good c.n c.m c.t c.q) (hD : H c.D = some (.lst [])) (hL : c.Lc ∈ frs outer) (hLs : c.L ≤ 1000) :
    codeAny (model P w) A (.call (.ref f) args) (fun r s' => match r with | .ok (.ret u) => RMade c P w outer H s u s' | _ => False) s := by
  obtain ⟨oc, od, kV, doc, pm, ann, cdv, ctor, slots0, rfl, lk, hcd⟩ := F.ex
  have S := scRest
  have kinS : K.In s.heap := e0.mod.kin.keeps fun b o e => (e0.bs b o e).1
  have noLim : s.heap.NoLimit := e0.mod.nolimit.keeps fun b o e => (e0.bs b o e).1
  have hl : ([.ref c.x, .int c.L] : List V).length = ["self", "limit"].length := rfl
  have hKinds : ∀ y ∈ (["self", "limit"] : List Str).zip us, (defScope tRdRest).names.lookup y.1 = some .local ∨ ((defScope tRdRest).names.lookup y.1 = some .cell ∧ ((cellsFrom (s.heap.objs.size + 1) (defScope tRdRest).names []).lookup y.1).isSome = true) := fun ⟨n, v⟩ hy => by
    rcases S.par n (List.of_mem_zip hy).1 with loc | cel
    · exact .inl loc
    · exact .inr ⟨cel, PySem.W.cellsFrom_some _ _ _ (.inl cel)⟩
  refine codeAny_call_generator hr.depth (kinS _ _ lk) rfl S.co S.gen rfl (PySem.W.codeRec_of kinS hcd) (hb _ _ _ _ ?_)
  refine wpAny_newFunctionEnv_cells S.kind hKinds fun env he s1 x => ?_
  subst he
  have noLim1 : s1.heap.NoLimit := noLim.keeps x.toInCall.keep
  refine ⟨noLim1, ?_⟩
  obtain ⟨heapA, tokA, stE, hkA⟩ := x.done
  have osE : s1.os = s.os := by rw [stE]
  have gensE : s1.gens = s.gens := by rw [stE]
  have szLt : s.heap.objs.size < s1.heap.objs.size := x.toInCall.ns.lt
  have szLe : s.heap.objs.size ≤ s1.heap.objs.size := Nat.le_of_lt szLt
  have keepA : ∀ b o, s.heap.get? b = some o → s1.heap.get? b = some o := x.toInCall.keep
  have made : ∀ (go : Obj) (nmV qnV : Value) (tk2 : Nat), go.cls = .type "generator" → go.data = .fields #[.int s1.gens.size 0, nmV, qnV] → go.slots = #[] → (∀ h : Heap, (h.push go).get? h.objs.size = some go) →
      RMade c P w outer H s (.ref s1.heap.objs.size) { s1 with gens := s1.gens.push (.fresh (.func (defBody tRdRest) (envOfC "Reader.rest" (defScope tRdRest) s.heap.objs.size f cdv))), toks := tk2, heap := s1.heap.push go } := by
    intro go nmV qnV tk2 goC goD goS goP
    have isGenOf : ∀ h : Heap, h.get? s1.heap.objs.size = some go → h.IsGen s1.heap.objs.size s1.gens.size := fun h e => ⟨go, nmV, qnV, e, goC, goD, goS⟩
    have pushedAt : (s1.heap.push go).get? s1.heap.objs.size = some go := goP _
    refine ⟨s1.heap.objs.size, s1.gens.size, _, rfl, szLe, isGenOf _ pushedAt, Array.getElem?_push_size .., osE, ?_, noLim1.keeps fun b o e => Heap.get?_push_of_some _ e, fun b o e => Heap.get?_push_of_some _ (keepA b o e), ?_⟩
    · exact AllBare.push (by rw [gensE]; exact e0.bare) rfl
    intro Aw s2 roomW framesW keepW osW bareW
    have envW : Env0 P w K mg base Aw outer s H := ⟨framesW, e0.mod, e0.bs, e0.bsz, e0.funs, e0.frf, e0.hok, e0.bare⟩
    have I0 : Inv (gcxOf P w K mg base ["self", "limit", "k", "found"] "Reader.rest" (defScope tRdRest) f cdv Aw outer s H E0 []) [] (start ["self", "limit", "k", "found"] [.ref c.x, .int c.L]) H s1 := inv_startG S roomW.hd envW hl r x
    have I1 : Inv (rX P w K mg base f cdv Aw outer s.heap.objs.size H [] s) [] (start ["self", "limit", "k", "found"] [.ref c.x, .int c.L]) H s1 :=
      ⟨⟨I0.ok.mod, I0.ok.kind, I0.ok.glob, I0.ok.blt, I0.ok.above, I0.ok.inj, I0.ok.has, I0.ok.cab, I0.ok.hd, I0.ok.frames, I0.ok.stk, I0.ok.exf, I0.ok.bs, I0.ok.bsz, I0.ok.noex, I0.ok.exfs, I0.ok.funs, I0.ok.frf⟩, I0.os, I0.bare, I0.base, I0.loc, I0.cell, I0.free, I0.freeC, I0.pin, I0.hok, I0.len⟩
    have keepB : ∀ b o, s1.heap.get? b = some o → s2.heap.get? b = some o := fun b o e => keepW b o (Heap.get?_push_of_some _ e)
    have I2 : Inv (rX P w K mg base f cdv Aw outer s.heap.objs.size H [] s) [] (start ["self", "limit", "k", "found"] [.ref c.x, .int c.L]) H s2 :=
      I1.call' (ch := []) (osW.trans osE.symm) (Un.kept keepB) (I1.hok.kept keepB) bareW fun b z => by simp at z
    have goAt : s2.heap.get? s1.heap.objs.size = some go := keepW s1.heap.objs.size go pushedAt
    have goNc : ∀ v, go.data ≠ .cell v := fun v q => by rw [goD] at q; cases q
    have hp0 : ∀ p ∈ [(s1.heap.objs.size, go)], s2.heap.get? p.1 = some p.2 ∧ H p.1 = none ∧ p.1 ≠ s.heap.objs.size ∧ p.1 ∉ frs outer ∧ ∀ v, p.2.data ≠ .cell v := fun p hp => by
      rw [List.mem_singleton.mp hp]
      exact ⟨goAt, I1.hok.fresh (Nat.le_refl _), Nat.ne_of_gt szLt, I1.nofs (Nat.le_refl _), goNc⟩
    have I3 : Inv (rX P w K mg base f cdv Aw outer s.heap.objs.size H [(s1.heap.objs.size, go)] s) [] (start ["self", "limit", "k", "found"] [.ref c.x, .int c.L]) H s2 :=
      ⟨⟨I2.ok.mod, I2.ok.kind, I2.ok.glob, I2.ok.blt, I2.ok.above, I2.ok.inj, I2.ok.has, I2.ok.cab, I2.ok.hd, I2.ok.frames, I2.ok.stk, I2.ok.exf, I2.ok.bs, I2.ok.bsz, I2.ok.noex, I2.ok.exfs, I2.ok.funs, I2.ok.frf⟩, I2.os, I2.bare, I2.base, I2.loc, I2.cell, I2.free, I2.freeC,
        fun p hp => hp0 p (by rw [← List.append_nil [(s1.heap.objs.size, go)]]; exact hp), I2.hok, I2.len⟩
    have fu : s.heap.FunFrames base outer := I3.ok.funs
    obtain ⟨hLb, oL, heL, _⟩ := fu.mem hL
    have nHL : H c.Lc = none := I3.ok.frf c.Lc hL
    have nbD : c.b ≠ c.D := ne_of hlg hD (by intro z; cases z)
    have nbx : c.b ≠ c.x := ne_of hlg hx (by intro z; injection z with _ _ z; cases z)
    have hov : Aw.over (.func (defBody tRdRest) (envOfC "Reader.rest" (defScope tRdRest) s.heap.objs.size f cdv)) [] = (rX P w K mg base f cdv Aw outer s.heap.objs.size H [(s1.heap.objs.size, go)] s).A := over_func
    have hr5 : Room 5 (Aw.deeper (envOfC "Reader.rest" (defScope tRdRest) s.heap.objs.size f cdv)) := roomW.deeper _
    have virt0 : Virt c.Lc s s s2 := ⟨rfl, rfl, fun _ _ => rfl, heL.trans (keepB _ _ (keepA _ _ heL)).symm⟩
    have len0 : LenAt c.D 0 s2 := by
      obtain ⟨_, its, n, rv, e⟩ := I3.hok c.D _ hD
      cases rv
      exact ⟨#[], n, e, rfl⟩
    refine seg_func (seg_execs_cons ?_)
    rw [exec_For]
    refine seg_bind_wrap (wpAny_standAt ?_)
    refine seg_bind_wrap ?_
    rw [hov]
    refine wpAny_mono ((pi_range1 (tg := restTg) (X := rX P w K mg base f cdv Aw outer s.heap.objs.size H [(s1.heap.objs.size, go)] s) rfl T.range (pa_cons (pv 1) pa_nil)).run _ s2 _ H (fun J H' => J = Itr 0 c.L ∧ H' = H) I3 ?_) (fun v s3 h3 => ?_) fun x s' hx => hx.elim
    · refine ⟨_, rfl, (c.L : Int), rfl, by omega, by omega, ?_, rfl⟩
      rw [Int.toNat_natCast]
    refine seg_bind_wrap (wpAny_of_eq (by rfl) ?_)
    refine seg_bind_wrap (wpAny_standAt ?_)
    refine seg_bind_wrap (wpAny_holding ?_)
    rw [hov]
    refine wpAny_mono h3 (fun itv s4 h4 => ?_) fun x s' hx => hx.elim
    obtain ⟨it, fp, tn, JJ, H2, e, I4, Tn, st4, f4, eJ, eH⟩ := h4
    subst e eJ eH
    refine seg_call fun p => ?_
    have nd := scRest.nd
    have eL : ∀ b ∈ fp, b ≠ c.Lc := fun b hb z => by
      obtain ⟨_, q1, q2, q3, _⟩ := f4 b hb
      exact q2 (by rw [z]; exact hL)
    refine rest_loop (c := c) (a0 := s.heap.objs.size) (sc := s) (go := go) hL nbD nbx hlg isGenOf hLs ((over_loop rfl rfl).trans hov) Tn (fun b hb => ?_) (fun s1 => pg_name (i := 2) nd rfl (Or.inl rfl))
      (fun s1 => ps_set (i := 3) nd rfl (Or.inl rfl) (pe_callOwn (pv 0) D hr5)) (fun s1 => ps_if (pt_cmpR op_isN (pv 3) pe_non (nomark _)) (pss_one ps_retN) pss_nil) (fun s1 => pv 3)
      (fun v2 v3 qi H D g ex eb k1 k2 => ?_) (fun n s₀ s' h => ?_) (fun n s₀ s' h => ?_) c.L 0 c.L [] c.q [] none none s2 s s4 H2 (Nat.sub_zero _) rfl (Nat.zero_le _) (Nat.le_refl _) virt0 len0 I4 ⟨.nil, gd, hx, fun _ _ _ _ e => e, hD, .nil⟩ st4 fun b hb => (f4 b hb).1
    · obtain ⟨q0, q1, q2, q3, q4, q5⟩ := f4 b hb
      refine ⟨q1, q2, ?_, fun z => ?_, eL b hb, q4, q5 (s1.heap.objs.size, go) (by show _ ∈ [(s1.heap.objs.size, go)] ++ []; simp)⟩
      · rcases q3 with z | z
        · cases z
        · exact z
      · rw [z, hD] at q0; cases q0
    · refine ⟨_, rfl, c.x, c.dx, _, rfl, hCR ▸ ex, c.x, c.dx, c.b, c.db, c.m, c.n, c.t, qi, rfl, hCR ▸ ex, hCL ▸ eb, g, fun hd => ?_, fun l v hd p hp => ?_⟩
      · exact ⟨_, rfl, rfl, _, rfl, iteT (k1 hd)⟩
      · subst hCR
        exact ⟨_, rfl, rfl, _, rfl, iteF (k2 l v hd p hp)⟩
    · exact seg_end (.ok (.ret .none)) (.inl ⟨.inl rfl, h⟩)
    · exact seg_end (.ok (.ret .none)) (.inl ⟨.inl rfl, h⟩)
  exact made _ _ _ _ rfl rfl rfl fun h => Heap.get?_push_size _ rfl
end
end K61
/-! A for statement over Reader.rest that is left. -/
namespace K61
open PySem PySem.Spec PyProof.Rows L2 GenW
/-- the frame is written, nothing else -/
theorem relocal {X : Cx} {pins : List (Addr × Obj)} {σ σ' : L2.St} {H : Hp} {s : Shared} {h' : Heap} {t' : Nat} (I : Inv X pins σ H s) (hc : X.env.cells = []) (e : ∀ b ob, b ≠ X.env.locals → s.heap.get? b = some ob → h'.get? b = some ob)
    (hl : ∃ m, h'.Ns X.env.locals m ∧ ∀ (i : Nat) (x : Str) (v : V), X.N[i]? = some x → σ'[i]? = some (some v) → Vis X.env.scope x → ∃ u, RelV v u ∧ X.env.kindOf x = some .local ∧ m x = some u) (len : σ'.length = X.N.length) : Inv X pins σ' H { s with heap := h', toks := t' } := by
  have ne : ∀ b o, X.s_0.heap.get? b = some o → b ≠ X.env.locals := fun b o z => Nat.ne_of_lt (Nat.lt_of_lt_of_le (Heap.lt_size z) I.ok.above)
  have nc : ∀ y c, X.env.cells.lookup y = some c → False := fun y c z => by rw [hc] at z; cases z
  refine ⟨I.ok, I.os, I.bare, ⟨fun b o q n hb hx => e _ _ (ne b o q) (I.base.keep b o q n hb hx), fun b o q n hb hx => ?_, I.base.free, fun b o q hx => ?_, I.base.tups, I.base.frzs, I.base.tbls⟩, ?_, fun y c z => (nc y c z).elim, I.free, I.freeC, fun p hp => ?_, hok_swap I.hok I.free e, len⟩
  · obtain ⟨sl, z⟩ := I.base.slot b o q n hb hx
    exact ⟨sl, e _ _ (ne b o q) z⟩
  · obtain ⟨o', z⟩ := I.base.there b o q hx
    exact ⟨o', e _ _ (ne b o q) z⟩
  · obtain ⟨m, hn, hm⟩ := hl
    refine ⟨m, hn, fun i x v a b d => ?_⟩
    obtain ⟨u, r, k1, k2⟩ := hm i x v a b d
    exact ⟨u, r, .inl ⟨k1, k2⟩⟩
  · obtain ⟨h1, h2, h3, h4, h5⟩ := I.pin p hp
    exact ⟨e _ _ h3 h1, h2, h3, h4, h5⟩
/-- the names of a frame without cells -/
theorem locals_at {X : Cx} {pins : List (Addr × Obj)} {σ : L2.St} {H : Hp} {s : Shared} (I : Inv X pins σ H s) (hc : X.env.cells = []) :
    ∃ m, s.heap.Ns X.env.locals m ∧ ∀ (i : Nat) (x : Str) (v : V), X.N[i]? = some x → σ[i]? = some (some v) → Vis X.env.scope x → ∃ u, RelV v u ∧ X.env.kindOf x = some .local ∧ m x = some u := by
  obtain ⟨m, hn, hl⟩ := I.loc
  refine ⟨m, hn, fun i x v a b d => ?_⟩
  obtain ⟨u, r, l⟩ := hl i x v a b d
  rcases l with ⟨k1, k2⟩ | ⟨_, c, z, _⟩
  · exact ⟨u, r, k1, k2⟩
  · rw [hc] at z; cases z
theorem gen_keeps2 {h h1 h2 : Heap} {a g : Nat} {L D : Addr} (x : h.IsGen a g) (aL : a ≠ L) (aD : a ≠ D) (k1 : ∀ b ob, b ≠ L → h.get? b = some ob → h1.get? b = some ob) (k2 : ∀ b ob, b ≠ D → h1.get? b = some ob → h2.get? b = some ob) : h2.IsGen a g := by
  obtain ⟨o, nm, qn, ho, r⟩ := x
  exact ⟨o, nm, qn, k2 _ _ aD (k1 _ _ aL ho), r⟩
abbrev rowsN : List Str := ["_law_reader", "_law_deed", "_law_limit", "_law_found", "_law_row"]
/-- the names' values -/
abbrev rowsS (x D : Addr) (dv : Option V) (l : Int) (rv : Option V) : L2.St := [some (.ref x), dv, some (.int l), some (.ref D), rv]
section
variable {c : RC} {P : Program} {w : World} {X : Cx} {f CL CR CF CS : Addr} {a g : Nat} {sc : Shared} {H0 : Hp} {pins : List (Addr × Obj)} {dv : Option V} {l : Int}
/-- the state ahead of a turn -/
structure RowsAt (c : RC) (X : Cx) (H0 : Hp) (sc : Shared) (a g : Nat) (pins : List (Addr × Obj)) (dv : Option V) (l : Int) (k : Nat) (s : Shared) : Prop where
  inv : ∃ sb rv, Virt c.Lc sc sb s ∧ Inv X pins (rowsS c.x c.D dv l rv) H0 sb
  len : LenAt c.D k s
  os : s.os = sc.os
  bare : AllBare s.gens
  gen : s.heap.IsGen a g
  lim : s.heap.NoLimit
  goes : ∃ gs, s.gens[g]? = some gs ∧ gs.Goes (model X.prog X.w) X.A.in1 (RR c X.prog X.w X.stack H0 sc a g) (RY c X.prog X.w X.stack H0 sc a g) (c.L - k) (.send .none) (s.setGen g .running)
/-- behind the body: the list is longer, the frame holds the row -/
theorem rows_body {p1 p2 p3 p4 p5 p6 p7 p8 p9 p10 p11 p12 : Pos} {E : Value → Shared → Prop} {s : Shared} {H : Hp} {p : Addr} {rs : List V}
    (I : Inv X pins (rowsS c.x c.D dv l (some (.ref p))) H s) (hN : X.N = rowsN) (hc : X.env.cells = []) (hV : ∀ x ∈ rowsN, Vis X.env.scope x) (hg : Gl X "len") (hm : X.mg "len" = none) (hD : H c.D = some (.lst rs)) (hl : rs.length < 1000)
    (happ : attributeBase (.Name "_law_found" p1) "append" X.env (eval (.Name "_law_found" p1) X.env) = eval (.Name "_law_found" p1) X.env)
    (hfew : ((backTo p4 (starEach [.Name "_law_row" p3] X.env)).all (fun x => !x.1) && (backToKw p4 (keywordEach [] X.env)).all (fun x => x.1.isSome) && decide (([.Name "_law_row" p3] : List Expr).length + ([] : List Keyword).length + (if ([] : List Keyword).isEmpty then 0 else 1) < 30)) = true)
    (hline : (p2.endLine == p4.line) = true) (htr : backTo p4 (starEach [.Name "_law_row" p3] X.env) = [(false, eval (.Name "_law_row" p3) X.env)]) (hsw : swapsWith (.Call (.Attribute (.Name "_law_found" p1) "append" p2) [.Name "_law_row" p3] [] p4) none p5.line X.env = pure false)
    (hbt : behindInMarks .Eq (.Name "_law_limit" p9) = false) (hlen1 : starEach [.Name "_law_found" p7] X.env = [(false, eval (.Name "_law_found" p7) X.env)])
    {Q : Flow → Shared → Prop}
    (hQ : ∀ (its : Array Value) (n tk : Nat), s.heap.get? c.D = some (lstObj its n) → its.size = rs.length → Inv X pins (rowsS c.x c.D dv l (some (.ref p))) (upd H c.D (.lst (rs ++ [.ref p]))) { s with heap := s.heap.update c.D (Obj.mapSeq (·.push (.ref p))), toks := tk } →
      Q (if ((rs.length : Int) + 1 == l) = true then .brk else .next) { s with heap := s.heap.update c.D (Obj.mapSeq (·.push (.ref p))), toks := tk }) :
    wpAny (model X.prog X.w) X.A (execs [.Expr (.Call (.Attribute (.Name "_law_found" p1) "append" p2) [.Name "_law_row" p3] [] p4) p5,
      .If (.Compare (.Call (.Name "len" p6) [.Name "_law_found" p7] [] p8) [.Eq] [.Name "_law_limit" p9] p10) [.Break p11] [] p12] X.env) Q E s := by
  have vis : ∀ (i : Nat) (x : Str), rowsN[i]? = some x → Vis X.env.scope x := fun i x h => hV x (List.mem_of_getElem? h)
  obtain ⟨m, hn, hl'⟩ := locals_at I hc
  obtain ⟨u2, r2, k2, m2⟩ := hl' 2 "_law_limit" (.int l) (by rw [hN]; rfl) rfl (vis 2 _ rfl)
  obtain ⟨t2, rfl⟩ := r2
  obtain ⟨u3, r3, k3, m3⟩ := hl' 3 "_law_found" (.ref c.D) (by rw [hN]; rfl) rfl (vis 3 _ rfl)
  obtain rfl : u3 = Value.ref c.D := r3
  obtain ⟨u4, r4, k4, m4⟩ := hl' 4 "_law_row" (.ref p) (by rw [hN]; rfl) rfl (vis 4 _ rfl)
  obtain rfl : u4 = Value.ref p := r4
  obtain ⟨zl, its, n, rv, eD⟩ := I.hok c.D _ hD
  have hle := rv.length
  have hsz : its.length < 1000 := by omega
  have hs2 : its.length ≤ sizeLine := Nat.le_of_lt (small1000 (Nat.le_of_lt hsz))
  have hs3 : (rs ++ [V.ref p]).length ≤ sizeLine := by
    rw [List.length_append, List.length_singleton]
    exact small1000 (by omega)
  have nDL : c.D ≠ X.env.locals := ne_of_none hD I.free
  refine wpAny_execs_cons (wpAny_Expr_any (wpAny_Call_append happ hfew hline htr (wpAny_Name (wpAny_loadName_local I.ok.kind k3 hn m3 ⟨c.D, its.toArray, rfl, ⟨_, n, eD, rfl, rfl, rfl⟩, wpAny_Name (wpAny_loadName_local I.ok.kind k4 hn m4 ?_) (by decide)⟩) (by decide))) I.quiet hsw)
  refine call_meets PySem.F.slot_list_append ⟨_, eD, rfl⟩ PySem.F.entry_list_append (PySem.F.args_list_append_2 _ _) (PySem.list_append c.D its.toArray n (.ref p) (by rw [List.size_toArray]; exact hs2)) ⟨eD, ?_⟩
  have I7 := fun tk => I.lset (t' := tk) (f := (·.push (Value.ref p))) (its' := its ++ [Value.ref p]) hD eD (by simp) (rv.append (.cons (show RelV (V.ref p) (Value.ref p) from rfl) .nil)) hs3
  have eD7 : (s.heap.update c.D (Obj.mapSeq (·.push (Value.ref p)))).get? c.D = some (Obj.mapSeq (·.push (Value.ref p)) _) := Heap.get?_update_self _ eD rfl
  have hn7 : (s.heap.update c.D (Obj.mapSeq (·.push (Value.ref p)))).Ns X.env.locals m := hn.at' fun o e => (Heap.get?_update_other _ _ nDL).trans e
  have il : (s.heap.update c.D (Obj.mapSeq (·.push (Value.ref p)))).IsList c.D (its.toArray.push (.ref p)) := ⟨_, eD7, rfl, _, rfl⟩
  have hz : (its.toArray.push (Value.ref p)).size = rs.length + 1 := by rw [Array.size_push, List.size_toArray, hle]
  refine wpAny_execs_cons (wpAny_If (wpAny_isTrue_Compare1 (wpAny_Call_Name_kw (ld_blt (I7 s.toks) hg hm bLen ?_)) hbt))
  refine PyProof.Rows.callWith_builtin1 ?_ hlen1 rfl
  rw [hlen1]
  show wpAny _ _ (spliced ((false, eval (.Name "_law_found" p7) X.env) :: backTo p8 (starEach [] X.env))) _ _ _
  refine Calls.spliced_cons (wpAny_Name (wpAny_loadName_local I.ok.kind k3 hn7 m3 ?_) (by decide))
  refine Calls.spliced_nil ?_
  refine Calls.call_len_list il (by rw [hz]; omega) ?_
  refine wpAny_Name (wpAny_loadName_local I.ok.kind k2 hn7 m2 ?_) (by decide)
  refine PySem.P.eq_int (wpAny_truthy_bool ?_)
  have fin := hQ its.toArray n (s.toks + 1 + 1) eD (by rw [List.size_toArray, hle]) (I7 (s.toks + 1 + 1))
  rw [hz]
  have ec : (((rs.length + 1 : Nat) : Int) == l) = ((rs.length : Int) + 1 == l) := by rw [Int.natCast_add]; rfl
  rw [ec]
  by_cases q : ((rs.length : Int) + 1 == l) = true
  · rw [q] at fin ⊢
    exact wpAny_execs_cons (wpAny_Break fin)
  · rw [eq_false_of_ne_true q] at fin ⊢
    exact wpAny_execs_nil (wpAny_execs_nil fin)
theorem rows_loop {pt p1 p2 p3 p4 p5 p6 p7 p8 p9 p10 p11 p12 : Pos} {R : Result → Shared → Prop}
    (hN : X.N = rowsN) (hc : X.env.cells = []) (hV : ∀ x ∈ rowsN, Vis X.env.scope x) (hk4 : X.env.kindOf "_law_row" = some .local) (hg : Gl X "len") (hm : X.mg "len" = none)
    (happ : attributeBase (.Name "_law_found" p1) "append" X.env (eval (.Name "_law_found" p1) X.env) = eval (.Name "_law_found" p1) X.env)
    (hfew : ((backTo p4 (starEach [.Name "_law_row" p3] X.env)).all (fun x => !x.1) && (backToKw p4 (keywordEach [] X.env)).all (fun x => x.1.isSome) && decide (([.Name "_law_row" p3] : List Expr).length + ([] : List Keyword).length + (if ([] : List Keyword).isEmpty then 0 else 1) < 30)) = true)
    (hline : (p2.endLine == p4.line) = true) (htr : backTo p4 (starEach [.Name "_law_row" p3] X.env) = [(false, eval (.Name "_law_row" p3) X.env)]) (hsw : swapsWith (.Call (.Attribute (.Name "_law_found" p1) "append" p2) [.Name "_law_row" p3] [] p4) none p5.line X.env = pure false)
    (hbt : behindInMarks .Eq (.Name "_law_limit" p9) = false) (hlen1 : starEach [.Name "_law_found" p7] X.env = [(false, eval (.Name "_law_found" p7) X.env)])
    (hr : Room 7 X.A) (hLc : c.Lc = X.env.locals) (hLD : c.Lc ≠ c.D) (hxD : c.x ≠ c.D) (l1 : 1 ≤ l) (l2 : l.toNat < c.L) (l3 : c.L ≤ 1000)
    (hQ : ∀ s' H1 rv' rs, Inv X pins (rowsS c.x c.D dv l rv') H1 s' → (∀ b o, b ≠ c.x → b ≠ c.D → H0 b = some o → H1 b = some o) → H1 c.x = some (.ins c.CR c.dx (rdF c.b (reads c.n c.m c.t l.toNat c.q).2)) → H1 c.D = some (.lst rs) →
      TupsAt H1 rs (reads c.n c.m c.t l.toNat c.q).1 → R (.ok .next) s') {s : Shared} (h0 : RowsAt c X H0 sc a g pins dv l 0 s) :
    codeAny (model X.prog X.w) X.A (.forLoop (.Name "_law_row" pt) (.ref a) [.Expr (.Call (.Attribute (.Name "_law_found" p1) "append" p2) [.Name "_law_row" p3] [] p4) p5,
      .If (.Compare (.Call (.Name "len" p6) [.Name "_law_found" p7] [] p8) [.Eq] [.Name "_law_limit" p9] p10) [.Break p11] [] p12] [] X.env) R s := by
  refine codeAny_forLoop_any (fun n s => ∃ k, k < l.toNat ∧ n = l.toNat - k ∧ RowsAt c X H0 sc a g pins dv l k s) ?_ (l.toNat - 0) ⟨0, by omega, rfl, h0⟩
  rintro n s ⟨k, hk, rfl, J⟩
  obtain ⟨⟨sb, rv, hv, Ib⟩, hlen, os, bare, gen, lim, gs, hgs, hgo⟩ := J
  have gIn : g < s.gens.size := (Array.getElem?_eq_some_iff.mp hgs).1
  -- the virtual state that the generator speaks of is ours
  have ours : ∀ sb2, Virt c.Lc sc sb2 (s.setGen g .running) → Inv X pins (rowsS c.x c.D dv l rv) H0 { sb with heap := sb2.heap } := fun sb2 hv2 => by
    have same : ∀ b, sb2.heap.get? b = sb.heap.get? b := fun b => by
      by_cases z : b = c.Lc
      · rw [z, hv2.at_, hv.at_]
        rfl
      · rw [hv2.off b z, hv.off b z]
    exact Ib.call' (ch := []) rfl (Un.kept fun b o e => (same b).trans e) (Ib.hok.kept fun b o e => (same b).trans e) Ib.bare fun b z => by cases z
  have count : ∀ j, LenAt c.D j (s.setGen g .running) → j = k := fun j hj => by
    obtain ⟨acc, c1, e1, z1⟩ := hj
    obtain ⟨acc2, c2, e2, z2⟩ := hlen
    have e1' : s.heap.get? c.D = some (lstObj acc c1) := e1
    rw [e1'] at e2
    have e3 := Option.some.inj e2
    injection e3 with _ _ e3 _
    injection e3 with e3 _
    rw [← z1, ← z2, e3]
  obtain ⟨mm, hmm⟩ : ∃ mm, c.L - k = mm + 1 := ⟨c.L - k - 1, by omega⟩
  rw [hmm] at hgo
  refine wpAny_gsz (n := g + 1) gIn (next_genG (A := X.A) (F := fun _ => RF c X.prog X.w X.stack H0 sc a g) (Er := fun _ _ => False) hr.hd lim hr.depth gen hgs hgo (fun v s₁ gs' hbare hy => ?_) (fun s₁ hF h' hk' => ?_) fun e s₁ he => he.elim)
  · intro hsz
    obtain ⟨H1, xs, x1, q', rs, p, hG, rfl, hp, hD, ht, hpre, hgd, hx, hkp, hkap⟩ := hy
    obtain ⟨⟨sb2, hv2, un⟩, hlen2, hok, os1, bare1, gen1, lim1⟩ := hG
    have hxk := count _ hlen2
    have hrk : rs.length = k := by rw [ht.length]; exact hxk
    have I3 : Inv X pins (rowsS c.x c.D dv l rv) H1 (s₁.setGen g gs') := (ours sb2 hv2).call' (ch := []) (s' := s₁.setGen g gs') (os1.trans hv.os.symm) un hok (allBare_setGen bare1 hbare) fun b z => by cases z
    obtain ⟨m, hn, hl'⟩ := locals_at I3 hc
    refine wpAny_of_eq (a := ()) rfl ?_
    refine wpAny_assign_Name (wpAny_storeName_local hk4 hn (fun h6 hn6 hs6 => ?_) (by rw [I3.ok.kind]; rfl))
    have names : ∀ (i : Nat) (x : Str) (v : V), X.N[i]? = some x → (rowsS c.x c.D dv l (some (.ref p)))[i]? = some (some v) → Vis X.env.scope x → ∃ u, RelV v u ∧ X.env.kindOf x = some .local ∧ (fun y => if y = ("_law_row" : Str) then some (Value.ref p) else m y) x = some u := fun i x v e1 e2 e3 => by
      have e1' := e1
      rw [hN] at e1'
      match i, e1', e1, e2 with
      | 0, e1', e1, e2 => cases e1'; obtain ⟨u, r, z1, z2⟩ := hl' 0 _ v e1 e2 e3; exact ⟨u, r, z1, z2⟩
      | 1, e1', e1, e2 => cases e1'; obtain ⟨u, r, z1, z2⟩ := hl' 1 _ v e1 e2 e3; exact ⟨u, r, z1, z2⟩
      | 2, e1', e1, e2 => cases e1'; obtain ⟨u, r, z1, z2⟩ := hl' 2 _ v e1 e2 e3; exact ⟨u, r, z1, z2⟩
      | 3, e1', e1, e2 => cases e1'; obtain ⟨u, r, z1, z2⟩ := hl' 3 _ v e1 e2 e3; exact ⟨u, r, z1, z2⟩
      | 4, e1', e1, e2 => cases e1'; cases e2; exact ⟨.ref p, rfl, hk4, rfl⟩
      | j + 5, e1', e1, e2 => cases e1'
    have len5 : (rowsS c.x c.D dv l (some (.ref p))).length = X.N.length := by rw [hN]; rfl
    have I6 := relocal (t' := (s₁.setGen g gs').toks + 1) I3 hc (fun b ob hb e => (hs6.2 b hb).trans e) ⟨_, hn6, names⟩ len5
    refine rows_body I6 hN hc hV hg hm hD (by omega) happ hfew hline htr hsw hbt hlen1 fun its n' tk eD6 hits I8 => ?_
    have h1D : (upd H1 c.D (.lst (rs ++ [.ref p]))) c.D = some (.lst (rs ++ [.ref p])) := upd_same
    have hx8 : (upd H1 c.D (.lst (rs ++ [.ref p]))) c.x = some (.ins c.CR c.dx (rdF c.b q')) := by rw [upd_ne hxD]; exact hx
    have kp8 : ∀ b o, b ≠ c.x → b ≠ c.D → H0 b = some o → (upd H1 c.D (.lst (rs ++ [.ref p]))) b = some o := fun b o z1 z2 e => by rw [upd_ne z2]; exact hkp b o z1 z2 e
    have tp8 : TupsAt (upd H1 c.D (.lst (rs ++ [.ref p]))) (rs ++ [.ref p]) (xs ++ [x1]) := by
      have t1 : TupsAt (upd H1 c.D (.lst (rs ++ [.ref p]))) rs xs := ht.same fun a' zs e => by
        rw [upd_ne (ne_of e hD (by intro z; cases z))]
        exact e
      exact Paired.snoc t1 ⟨p, rfl, by rw [upd_ne (ne_of hp hD (by intro z; cases z))]; exact hp⟩
    by_cases q : ((rs.length : Int) + 1 == l) = true
    · rw [if_pos q]
      have el : l.toNat = (xs ++ [x1]).length := by
        have q' : (rs.length : Int) + 1 = l := by simpa using q
        rw [List.length_append, List.length_singleton]
        omega
      refine hQ _ _ _ (rs ++ [.ref p]) I8 kp8 ?_ h1D ?_
      · rw [el, hpre.all]
        exact hx8
      · rw [el, hpre.all]
        exact tp8
    · rw [if_neg q]
      have q' : (rs.length : Int) + 1 ≠ l := by simpa using q
      obtain ⟨oF, esF, epF, hoF, hdF, _⟩ := id hn6
      obtain ⟨oF1, esF1, epF1, hoF1, hdF1, _⟩ := id hn
      have nfF : ∀ vs, oF.data ≠ .fields vs := fun vs z => by rw [hdF] at z; cases z
      have aL : a ≠ c.Lc := fun z => by
        obtain ⟨o, nm, qn, ho, _, hd, _⟩ := gen1
        have ho' : s₁.heap.get? X.env.locals = some oF1 := hoF1
        rw [z, hLc, ho'] at ho
        cases ho
        rw [hd] at hdF1
        cases hdF1
      have aD : a ≠ c.D := fun z => by
        obtain ⟨o, nm, qn, ho, _, hd, _⟩ := gen1
        obtain ⟨_, _, _, _, e⟩ := hok c.D _ hD
        rw [z, e] at ho
        cases ho
        cases hd
      have k6 : ∀ b ob, b ≠ c.Lc → s₁.heap.get? b = some ob → h6.get? b = some ob := fun b ob hb e => (hs6.2 b (by rw [← hLc]; exact hb)).trans e
      have k8 : ∀ b ob, b ≠ c.D → h6.get? b = some ob → (h6.update c.D (Obj.mapSeq (·.push (Value.ref p)))).get? b = some ob := fun b ob hb e => (Heap.get?_update_other _ _ (Ne.symm hb)).trans e
      have hoF' : h6.get? c.Lc = some oF := by rw [hLc]; exact hoF
      obtain ⟨ob0, eb0⟩ : ∃ ob0, sb.heap.get? c.Lc = some ob0 := by
        obtain ⟨mb, ⟨o, es, ep, ho, _⟩, _⟩ := Ib.loc
        exact ⟨o, by rw [hLc]; exact ho⟩
      have uL : (sb.heap.update c.Lc (fun _ => oF)).get? c.Lc = some oF := Heap.get?_update_self (fun _ => oF) eb0 (Heap.get?_some_iff.mp hoF').2
      have uO : ∀ b, b ≠ c.Lc → (sb.heap.update c.Lc (fun _ => oF)).get? b = sb.heap.get? b := fun b hb => Heap.get?_update_other _ _ (Ne.symm hb)
      have hsz1 : g < s₁.gens.size := by
        have z : (s₁.setGen g gs').gens.size = s₁.gens.size := setGen_size _ _ _
        have hsz' : g + 1 ≤ (s₁.setGen g gs').gens.size := hsz
        omega
      refine ⟨l.toNat - (k + 1), by omega, k + 1, by omega, rfl, ⟨⟨{ sb with heap := sb.heap.update c.Lc (fun _ => oF), toks := sb.toks }, some (.ref p), ⟨hv.os, (Heap.size_after_update ..).trans hv.sz, fun b hb => (uO b hb).trans (hv.off b hb), ?_⟩,
        relocal Ib hc (fun b ob hb e => (uO b (by rw [hLc]; exact hb)).trans e) ⟨_, hn6.at' fun o e => ?_, names⟩ len5⟩, ⟨its.push (.ref p), _, Heap.get?_update_self _ eD6 rfl, ?_⟩, os1, allBare_setGen bare1 hbare, ?_, I8.nolimit, gs', setGen_at hsz1, ?_⟩⟩
      · rw [uL]
        exact (k8 _ _ hLD hoF').symm
      · rw [← hLc] at e ⊢
        rw [hoF'] at e
        rw [uL]
        exact e
      · rw [Array.size_push, hits, hrk]
      · exact gen_keeps2 gen1 aL aD k6 k8
      · have em : c.L - (k + 1) = mm := by omega
        rw [em]
        exact hkap _ ⟨rfl, allBare_setGen (allBare_setGen bare1 hbare) rfl, h6, oF, k6, hoF', nfF, k8, fun its' k' e => ⟨_, Heap.get?_update_self _ e rfl⟩⟩
  · intro hsz
    obtain ⟨H1, xs, q', rs, hG, ra, hend⟩ := hF
    obtain ⟨⟨sb2, hv2, un⟩, hlen2, hok, os1, bare1, gen1, lim1⟩ := hG
    have hxk := count _ hlen2
    have I3 : Inv X pins (rowsS c.x c.D dv l rv) H1 { s₁.setGen g .finished with heap := h' } := (ours sb2 hv2).call' (ch := []) (os1.trans hv.os.symm) (un.trans (Un.kept hk')) (hok.kept hk') (allBare_setGen bare1 rfl) fun b z => by cases z
    have er : reads c.n c.m c.t l.toNat c.q = (xs, q') := by
      rcases hend with z | z
      · exact ra.pre.stop z (by omega)
      · omega
    refine wpAny_execs_nil (hQ _ H1 rv rs I3 ra.kp ?_ ra.lst ?_)
    · rw [er]; exact ra.rd
    · rw [er]; exact ra.tup
end
end K61
/-! _law_rows. -/
namespace K61
open PySem PySem.Spec PyProof.Rows L2 GenW
/-- the method rest -/
structure Rst1 (K : PySem.W.Frag) (C : Addr) : Prop where
  ex : ∃ (f : Addr) (fd : FuncData), Fun K "rest" "Reader.rest" tRdRest f fd ∧ Meth K C "rest" f ∧ Binds K fd ["self", "limit"] []
def tRowsFor (CL CR : Addr) : TS := fun D σ H => ∃ (x dx b db Dl : Addr) (m n t q l : Int) (dv rv : Option V), σ = rowsS x Dl dv l rv ∧ H x = some (.ins CR dx (rdF b q)) ∧ H b = some (.ins CL db (lgF m n t)) ∧ Good n m t q ∧ H Dl = some (.lst []) ∧ 1 ≤ l ∧ l ≤ 100 ∧
  ∀ H1 rv' rs, (∀ b o, b ≠ x → b ≠ Dl → H b = some o → H1 b = some o) → H1 x = some (.ins CR dx (rdF b (reads n m t l.toNat q).2)) → H1 Dl = some (.lst rs) → TupsAt H1 rs (reads n m t l.toNat q).1 → D.nx (rowsS x Dl dv l rv') H1
section
variable {X : Cx} {CL CR CF CS : Addr}
theorem ps_rows {pt p1 p2 p3 p4 p5 p6 p7 p8 p9 p10 p11 p12 q1 q2 q3 q4 q5 q6 q7 : Pos} {j3 : Nat} {pl : Sem Bool} (T : Txt X.K X.mg CL CR CF CS) (D : Mth1 X.prog X.w X.K X.mg X.base 5 CR "__call__" ["self"] (spCall CL CR)) (M : Rst1 X.K CR)
    (hN : X.N = rowsN) (hc : X.env.cells = []) (hV : ∀ x ∈ rowsN, Vis X.env.scope x) (hk4 : X.env.kindOf "_law_row" = some .local) (hg : Gl X "len")
    (happ : attributeBase (.Name "_law_found" p1) "append" X.env (eval (.Name "_law_found" p1) X.env) = eval (.Name "_law_found" p1) X.env)
    (hfew : ((backTo p4 (starEach [.Name "_law_row" p3] X.env)).all (fun x => !x.1) && (backToKw p4 (keywordEach [] X.env)).all (fun x => x.1.isSome) && decide (([.Name "_law_row" p3] : List Expr).length + ([] : List Keyword).length + (if ([] : List Keyword).isEmpty then 0 else 1) < 30)) = true)
    (hline : (p2.endLine == p4.line) = true) (htr : backTo p4 (starEach [.Name "_law_row" p3] X.env) = [(false, eval (.Name "_law_row" p3) X.env)]) (hsw : swapsWith (.Call (.Attribute (.Name "_law_found" p1) "append" p2) [.Name "_law_row" p3] [] p4) none p5.line X.env = pure false)
    (hbt : behindInMarks .Eq (.Name "_law_limit" p9) = false) (hlen1 : starEach [.Name "_law_found" p7] X.env = [(false, eval (.Name "_law_found" p7) X.env)])
    (hr : Room 7 X.A) (hLs : X.env.locals ∈ frs X.stack)
    (ht : eval (.Call (.Attribute (.Name "_law_reader" q1) "rest" q2) [.BinOp (.Name "_law_limit" q3) .Add (.Constant (.int 3) j3 q4) q5] [] q6) X.env = (do
      let ov ← eval (.Name "_law_reader" q1) X.env
      standAt q2.atName
      let (f, first) ← holding [ov] (getMethod ov "rest" pl)
      callWith q6 f first (backTo q6 (starEach [.BinOp (.Name "_law_limit" q3) .Add (.Constant (.int 3) j3 q4) q5] X.env)) (backToKw q6 (keywordEach [] X.env))))
    (hfold : ∀ x, foldedSetIterable (.Call (.Attribute (.Name "_law_reader" q1) "rest" q2) [.BinOp (.Name "_law_limit" q3) .Add (.Constant (.int 3) j3 q4) q5] [] q6) X.env x = pure x) :
    PS X (.For (.Name "_law_row" pt) (.Call (.Attribute (.Name "_law_reader" q1) "rest" q2) [.BinOp (.Name "_law_limit" q3) .Add (.Constant (.int 3) j3 q4) q5] [] q6)
      [.Expr (.Call (.Attribute (.Name "_law_found" p1) "append" p2) [.Name "_law_row" p3] [] p4) p5, .If (.Compare (.Call (.Name "len" p6) [.Name "_law_found" p7] [] p8) [.Eq] [.Name "_law_limit" p9] p10) [.Break p11] [] p12] [] q7) (tRowsFor CL CR) := by
  refine ⟨fun pins s σ H D' I h => ?_⟩
  obtain ⟨x, dx, b, db, Dl, m, n, t, q, l, dv, rv, rfl, ex, eb, gd, eD, l1, l2, k⟩ := h
  obtain ⟨f, fd, F, hm, hb⟩ := M.ex
  have vis : ∀ (i : Nat) (x : Str), rowsN[i]? = some x → Vis X.env.scope x := fun i x h => hV x (List.mem_of_getElem? h)
  have nxD : x ≠ Dl := ne_of ex eD (by intro z; cases z)
  refine wpAny_For ?_ hfold
  refine PySem.W.methodCall_KW (pl := pl) (thn ((pe_var (i := 0) (by rw [hN]; rfl) (vis 0 _ rfl)).run pins s _ H (fun v H' => v = .ref x ∧ H' = H) I ⟨_, rfl, rfl, rfl⟩) fun u s1 ⟨v, H1, I1, rx, ev, eH⟩ => ?_) ht
  subst ev eH
  obtain rfl : u = Value.ref x := rx
  refine getmeth_ok I1 ex T.cR hm (show (rdF b q).lookup ("rest" : Str) = none from rfl) ?_
  refine PySem.W.callWith_K (first := [.ref x]) (h₀ := X.base) I.ok.mod.kin hm.kp (thn ((pa_cons (pe_op op_add (pe_var (i := 2) (by rw [hN]; rfl) (vis 2 _ rfl)) pe_int) pa_nil).run q6 pins s1 _ H1 (fun vs H' => vs = [.int (l + 3)] ∧ H' = H1) I1 ⟨_, rfl, _, _, rfl, rfl, rfl, rfl⟩) fun us s2 ⟨vs, H2, I2, r, ev, eH⟩ => ⟨I2.kIn, ?_⟩) rfl rfl
  subst ev eH
  have eL : ((l + 3).toNat : Int) = l + 3 := Int.toNat_of_nonneg (by omega)
  obtain ⟨c, hcc⟩ : ∃ c : RC, c = { CL := CL, CR := CR, x := x, dx := dx, b := b, db := db, m := m, n := n, t := t, q := q, L := (l + 3).toNat, D := Dl, Lc := X.env.locals } := ⟨_, rfl⟩
  have r2 : Vals [V.ref c.x, V.int c.L] (Value.ref x :: us) := by
    subst hcc
    refine .cons rfl ?_
    show Vals [V.int ((l + 3).toNat : Int)] us
    rw [eL]
    exact r
  have hl2 : ((Value.ref x :: us) ++ ([] : List Value)).length = (["self", "limit"] : List Str).length := by
    rw [List.append_nil, ← r2.length]
    rfl
  have hb2 : BindsTo s2 fd ⟨Value.ref x :: us, []⟩ ((["self", "limit"] : List Str).zip (Value.ref x :: us)) := by
    have z := hb s2 (Value.ref x :: us) I2.kIn hl2
    rw [List.append_nil] at z
    exact z
  refine wpAny_call (codeAny_mono (rest_call (c := c) F T D (by subst hcc; rfl) (by subst hcc; rfl) (hr.mono (by decide)) I2.env0 hb2 r2 (by subst hcc; exact ex) (by subst hcc; exact eb) (by subst hcc; exact gd) (by subst hcc; exact eD) (by subst hcc; exact hLs) (by subst hcc; show (l + 3).toNat ≤ 1000; omega)) fun r s3 hq => ?_)
  cases r with
  | error e => exact False.elim hq
  | ok fl =>
  cases fl with
  | next => exact False.elim hq
  | brk => exact False.elim hq
  | cont => exact False.elim hq
  | ret u =>
    obtain ⟨a, g, cd, rfl, hsz, gen, hgs, os, bare, lim, kp, wake⟩ := hq
    refine wpAny_pyIter_gen gen ?_
    obtain ⟨mL, ⟨oL, esL, epL, hoL, _⟩, _⟩ := I2.loc
    obtain ⟨_, its, nD, rD, hoD⟩ := I2.hok Dl _ eD
    cases rD
    refine rows_loop (c := c) (pins := pins) (dv := dv) (l := l) (H0 := H2) (sc := s2) (g := g) hN hc hV hk4 hg T.len happ hfew hline htr hsw hbt hlen1 hr (by subst hcc; rfl) (by subst hcc; exact Ne.symm (ne_of_none eD I2.free)) (by subst hcc; exact nxD) l1 (by subst hcc; show l.toNat < (l + 3).toNat; omega) (by subst hcc; show (l + 3).toNat ≤ 1000; omega)
      (fun s' H1 rv' rs I' z1 z2 z3 z4 => ?_) ⟨⟨s2, rv, ⟨rfl, rfl, fun _ _ => rfl, ?_⟩, ?_⟩, ⟨#[], nD, ?_, rfl⟩, os, bare, gen, lim, _, hgs, rfl, ?_⟩
    · subst hcc
      exact ⟨_, H1, I', k H1 rv' rs z1 z2 z3 z4⟩
    · subst hcc
      show s2.heap.get? X.env.locals = s3.heap.get? X.env.locals
      rw [hoL, kp _ _ hoL]
    · subst hcc
      exact I2
    · subst hcc
      exact kp _ _ hoD
    · exact wake X.A.in1 (s3.setGen g .running) hr.in1 I2.ok.frames (fun _ _ e => e) os (allBare_setGen bare rfl)
end
def spRows (CL CR : Addr) : Sp := fun vs H Q _ => ∃ x dx b db m n t q deed l, vs = [.ref x, .int deed, .int l] ∧ H x = some (.ins CR dx (rdF b q)) ∧ H b = some (.ins CL db (lgF m n t)) ∧ Good n m t q ∧ ((deed = 1 ∧ 0 ≤ l ∧ l ≤ 100) ∨ (deed ≠ 1 ∧ 1 ≤ l ∧ l ≤ 100)) ∧
  ∀ H' D rs, (∀ c o, c ≠ x → H c = some o → H' c = some o) → H' x = some (.ins CR dx (rdF b (reads n m t l.toNat q).2)) → H' D = some (.lst rs) → TupsAt H' rs (reads n m t l.toNat q).1 → Q (.ref D) H'
section
variable {P : Program} {w : World} {K : PySem.W.Frag} {mg : Str → Option Value} {base : Heap} {f CL CR CF CS : Addr} {fd : FuncData}
theorem scRows : FnScope rowsN ["_law_reader", "_law_deed", "_law_limit"] (defScope tRows) := ⟨rfl, rfl, rfl, by decide +kernel, rfl, by decide +kernel, by decide +kernel⟩
theorem rowsVis : ∀ x ∈ rowsN, (defScope tRows).names.lookup x = some .local := by decide +kernel
theorem ok_rows (F : Fun K "_law_rows" "_law_rows" tRows f fd) (T : Txt K mg CL CR CF CS) (D : Mth1 P w K mg base 5 CR "__call__" ["self"] (spCall CL CR)) (M : Rst1 K CR) : FnOk P w K mg base CX0 10 f fd ["_law_reader", "_law_deed", "_law_limit"] (spRows CL CR) := by
  refine F.ok scRows (fun vs H Q E h => ?_) (fun cdv A outer s H vs Q E hr h => ?_)
  · obtain ⟨x, dx, b, db, m, n, t, q, deed, l, rfl, _⟩ := h
    rfl
  · obtain ⟨x, dx, b, db, m, n, t, q, deed, l, rfl, ex, eb, gd, hd, k⟩ := h
    have nd := scRows.nd
    obtain ⟨fr, fdr, Fr, hmr, hbr⟩ := id M.ex
    refine ⟨_, pss_cons (ps_if (pt_cmpR op_eq (pv 1) pe_int (nomark _)) (pss_one (ps_ret (pe_listG (pgen_meth (E := E0) (pv 0) T.cR hmr (ok_rest Fr T D) (hr.mono (by decide)) hbr (.nil) (pa_cons (pv 2) pa_nil)) (fun pins σ H s e s' I hc => by obtain ⟨a, B, H', cls, d, _, _, _, _, _, _, _, hW⟩ := hc; exact hW.elim) (fun _ _ _ z => z.elim) (hr.mono (by decide)) (by rfl) T.list (by decide +kernel)))) pss_nil)
      (pss_cons (ps_set (i := 3) nd rfl (Or.inl rfl) (pe_lst pa_nil))
      (pss_cons (ps_rows T D M rfl (by rfl) (fun x hx => .inl (rowsVis x hx)) (by rfl) (by rfl) (by rfl) (by rfl) (by rfl) (by rfl) (by rfl) (by rfl) (by rfl) (hr.mono (by decide)) (by show _ ∈ _ :: _; exact List.mem_cons_self) (by rfl) (by intro _; rfl))
      (pss_one (ps_ret (pv 3))))), ?_⟩
    refine ⟨_, rfl, rfl, _, rfl, ?_⟩
    rcases hd with ⟨rfl, l0, l1⟩ | ⟨hne, l0, l1⟩
    · refine iteT ?_
      refine ⟨_, rfl, x, dx, _, rfl, ex, rfl, _, rfl, x, dx, b, db, m, n, t, q, l, rfl, ex, eb, gd, l0, l1, fun H' rs z1 z2 z3 p hp => ?_⟩
      refine k _ p rs (fun c o hc e => ?_) ?_ upd_same ?_
      · rw [upd_ne (ne_of_none (z1 c o hc e) hp)]
        exact z1 c o hc e
      · rw [upd_ne (ne_of_none z2 hp)]
        exact z2
      · exact z3.same fun a xs e => by rw [upd_ne (ne_of_none e hp)]; exact e
    · rw [decide_eq_false (show ¬ V.int deed = V.int 1 from fun z => hne (V.int.inj z))]
      refine iteF ?_
      refine ⟨Nat.zero_le _, fun p hp => ?_⟩
      have pk : ∀ c o, H c = some o → (upd H p (.lst [])) c = some o := fun c o e => by rw [upd_ne (ne_of_none e hp)]; exact e
      refine ⟨x, dx, b, db, p, m, n, t, q, l, _, _, rfl, pk _ _ ex, pk _ _ eb, gd, upd_same, l0, l1, fun H1 rv' rs z1 z2 z3 z4 => ?_⟩
      refine ⟨_, rfl, ?_⟩
      exact k H1 p rs (fun c o hc e => z1 c o hc (ne_of_none e hp) (pk c o e)) z2 z3 z4
end
end K61
/-! The law's own state. -/
namespace K61
open PySem L2
/-- three values -/
def L3 (a : Nat → V) : List V := [a 0, a 1, a 2]
theorem L3.at {a : Nat → V} {i : Nat} (h : i < 3) : (L3 a)[i]? = some (a i) := by
  match i, h with
  | 0, _ => rfl
  | 1, _ => rfl
  | 2, _ => rfl
theorem L3.of {a : Nat → V} {i : Nat} {y : V} (h : (L3 a)[i]? = some y) : i < 3 ∧ y = a i := by
  match i, h with
  | 0, h => exact ⟨by omega, (Option.some.inj h).symm⟩
  | 1, h => exact ⟨by omega, (Option.some.inj h).symm⟩
  | 2, h => exact ⟨by omega, (Option.some.inj h).symm⟩
  | k + 3, h => cases h
theorem L3.snoc {a : Nat → V} {i : Nat} (h : i < 3) : (L3 a).take i ++ [a i] = (L3 a).take (i + 1) := by
  match i, h with
  | 0, _ => rfl
  | 1, _ => rfl
  | 2, _ => rfl
theorem L3.ix {a : Nat → V} {v : Int} (h0 : 0 ≤ v) (h1 : v < 3) : ixN (L3 a).length v = some v.toNat := by
  show ixN 3 v = _
  have hv : v = 0 ∨ v = 1 ∨ v = 2 := by omega
  rcases hv with rfl | rfl | rfl <;> rfl
theorem L3.atI {a : Nat → V} {v : Int} (h0 : 0 ≤ v) (h1 : v < 3) : atI (L3 a) v = some (a v.toNat) := by
  have hv : v = 0 ∨ v = 1 ∨ v = 2 := by omega
  rcases hv with rfl | rfl | rfl <;> rfl
/-- one of them is changed -/
def setF (f : Nat → Int) (i : Nat) (x : Int) : Nat → Int := fun j => if j = i then x else f j
theorem setF_same {f : Nat → Int} {i : Nat} {x : Int} : setF f i x i = x := if_pos rfl
theorem setF_ne {f : Nat → Int} {i j : Nat} {x : Int} (h : j ≠ i) : setF f i x j = f j := if_neg h
theorem L3.set {f : Nat → Int} {i : Nat} {x : Int} (h : i < 3) : (L3 fun j => V.int (f j)).set i (.int x) = L3 fun j => V.int (setF f i x j) := by
  match i, h with
  | 0, _ => rfl
  | 1, _ => rfl
  | 2, _ => rfl
theorem L3.fn {xs : List Int} (h : xs.length = 3) : xs.map V.int = L3 fun j => V.int (xs.getD j 0) := by
  match xs, h with
  | [a, b, c], _ => rfl
/-! ### pairs, read deeply -/
def pD (y : Int × Int) : PyData := .tuple [.int y.1, .int y.2]
theorem pD_lay : ∀ ys : List (Int × Int), PyData.canLayAll0 (ys.map pD) = true
  | [] => by simp [PyData.canLayAll0]
  | y :: ys => by simp [PyData.canLayAll0, pD, PyData.canLay0, pD_lay ys]
theorem pD_depth : ∀ ys : List (Int × Int), PyData.depthAll (ys.map pD) ≤ 1
  | [] => by simp [PyData.depthAll]
  | y :: ys => by
    have h1 := pD_depth ys
    have h2 : (pD y).depth = 1 := by simp [pD, PyData.depth, PyData.depthAll]
    simp only [List.map_cons, PyData.depthAll]
    omega
theorem shaped_of {ds : List PyData} (h1 : PyData.canLayAll0 ds = true) (h2 : PyData.depthAll ds ≤ 1) : SeqAt.shaped (.list ds) = true := by
  have h3 : PyData.depth (.list ds) ≤ 64 := by
    simp only [PyData.depth]
    omega
  show (PyData.canLay0 (.list ds) && decide (PyData.depth (.list ds) ≤ 64)) = true
  rw [Bool.and_eq_true]
  exact ⟨by simp only [PyData.canLay0]; exact h1, decide_eq_true h3⟩
theorem pD_shaped (ys : List (Int × Int)) : SeqAt.shaped (.list (ys.map pD)) = true := shaped_of (pD_lay ys) (pD_depth ys)
theorem dp_pairs {K : PySem.W.Frag} {H : Hp} : ∀ {rs : List V} {ys : List (Int × Int)}, TupsAt H rs ys → DpAll K H rs (ys.map pD) := by
  intro rs ys h
  unfold TupsAt at h
  induction h with
  | nil => exact .nil
  | cons h _ ih =>
    obtain ⟨a, rfl, e⟩ := h
    exact .cons (.tup (SqT.of e) (.cons (.int _) (.cons (.int _) .nil))) ih
theorem dp_ints {K : PySem.W.Frag} {H : Hp} : ∀ (zs : List Int), DpAll K H (zs.map V.int) (zs.map PyData.int)
  | [] => .nil
  | z :: zs => .cons (.int z) (dp_ints zs)
theorem ints_lay : ∀ zs : List Int, PyData.canLayAll0 (zs.map PyData.int) = true
  | [] => by simp [PyData.canLayAll0]
  | z :: zs => by simp [PyData.canLayAll0, PyData.canLay0, ints_lay zs]
theorem ints_depth : ∀ zs : List Int, PyData.depthAll (zs.map PyData.int) ≤ 1
  | [] => by simp [PyData.depthAll]
  | z :: zs => by
    have h1 := ints_depth zs
    have h2 : (PyData.int z).depth = 0 := by simp [PyData.depth]
    simp only [List.map_cons, PyData.depthAll]
    omega
/-- the same on both sides: they do not differ -/
theorem ne_same {K : PySem.W.Frag} {H : Hp} {a b : Addr} {ds : List PyData} {Q : VK} (hs : SeqAt.shaped (.list ds) = true) (ha : Dp K H (.ref a) (.list ds)) (hb : Dp K H (.ref b) (.list ds)) (h : Q (.bl false) H) : rNeD K (.ref a) (.ref b) H Q := by
  refine ⟨_, _, ha, hb, hs, hs, ?_⟩
  rw [SeqAt.eqv_refl _ (SeqAt.canLay_of_shaped hs)]
  exact h
/-! ### the state -/
structure LawAt (CL CR c p B db RL PL : Addr) (r d : Nat → Addr) (ns : List Int) (n m t : Int) (q z : Nat → Int) (H : Hp) : Prop where
  pool : PoolAt c p ns H
  book : H B = some (.ins CL db (lgF m n t))
  rl : H RL = some (.lst (L3 fun i => .ref (r i)))
  pl : H PL = some (.lst (L3 fun i => .int (z i)))
  rd : ∀ i, i < 3 → H (r i) = some (.ins CR (d i) (rdF B (q i)))
  good : ∀ i, i < 3 → Good n m t (q i)
  ne : ∀ i j, i < 3 → j < 3 → i ≠ j → r i ≠ r j
  n2 : n ≤ 10 ^ 30
  m2 : m ≤ 10 ^ 31
  plc : PL ≠ c
section
variable {CL CR c p B db RL PL : Addr} {r d : Nat → Addr} {ns : List Int} {n m t : Int} {q z : Nat → Int} {H H' : Hp}
theorem LawAt.keep (h : LawAt CL CR c p B db RL PL r d ns n m t q z H) (kp : ∀ b o, b ≠ p → H b = some o → H' b = some o) (hp : PoolAt c p ns H') : LawAt CL CR c p B db RL PL r d ns n m t q z H' := by
  obtain ⟨⟨i, b, k, y, ep, _⟩, _⟩ := h.pool
  have n1 : B ≠ p := ne_of h.book ep (by intro z; cases z)
  have n2 : RL ≠ p := ne_of h.rl ep (by intro z; cases z)
  have n3 : PL ≠ p := ne_of h.pl ep (by intro z; cases z)
  exact ⟨hp, kp _ _ n1 h.book, kp _ _ n2 h.rl, kp _ _ n3 h.pl, fun j hj => kp _ _ (ne_of (h.rd j hj) ep (by intro z; cases z)) (h.rd j hj), h.good, h.ne, h.n2, h.m2, h.plc⟩
theorem LawAt.same (h : LawAt CL CR c p B db RL PL r d ns n m t q z H) (s : Same H H') : LawAt CL CR c p B db RL PL r d ns n m t q z H' := h.keep (fun b o _ e => s b o e) (h.pool.same s)
theorem LawAt.pt (h : LawAt CL CR c p B db RL PL r d ns n m t q z H) (a : PT c p ns H H') : LawAt CL CR c p B db RL PL r d ns n m t q z H' := h.keep a.kp a.at_
/-- a reader has read -/
theorem LawAt.read {i : Nat} {x : Int} (h : LawAt CL CR c p B db RL PL r d ns n m t q z H) (hi : i < 3) (kp : ∀ b o, b ≠ r i → H b = some o → H' b = some o) (hx : H' (r i) = some (.ins CR (d i) (rdF B x))) (g : Good n m t x) :
    LawAt CL CR c p B db RL PL r d ns n m t (setF q i x) z H' := by
  have e := h.rd i hi
  have n0 : ∀ b xs, H b = some (.lst xs) → b ≠ r i := fun b xs z => ne_of z e (by intro q; cases q)
  have n1 : B ≠ r i := ne_of h.book e (by intro z; injection z with _ _ z; cases z)
  obtain ⟨⟨j, b, k, y, ep, hj⟩, ec, nc, ln⟩ := h.pool
  refine ⟨⟨⟨j, b, k, y, kp _ _ (n0 _ _ ep) ep, hj⟩, kp _ _ (n0 _ _ ec) ec, nc, ln⟩, kp _ _ n1 h.book, kp _ _ (n0 _ _ h.rl) h.rl, kp _ _ (n0 _ _ h.pl) h.pl, fun j hj => ?_, fun j hj => ?_, h.ne, h.n2, h.m2, h.plc⟩
  · by_cases z : j = i
    · subst z
      rw [setF_same]
      exact hx
    · rw [setF_ne z]
      exact kp _ _ (h.ne j i hj hi z) (h.rd j hj)
  · by_cases z : j = i
    · subst z
      rw [setF_same]
      exact g
    · rw [setF_ne z]
      exact h.good j hj
/-- the list of the counters is written -/
theorem LawAt.put {z' : Nat → Int} (h : LawAt CL CR c p B db RL PL r d ns n m t q z H) : LawAt CL CR c p B db RL PL r d ns n m t q z' (upd H PL (.lst (L3 fun i => .int (z' i)))) := by
  obtain ⟨⟨j, b, k, y, ep, hj⟩, ec, nc, ln⟩ := h.pool
  have e := h.pl
  have n0 : ∀ x C dx fs, H x = some (.ins C dx fs) → x ≠ PL := fun x C dx fs z => ne_of z e (by intro q; cases q)
  refine ⟨⟨⟨j, b, k, y, ?_, hj⟩, ?_, nc, ln⟩, ?_, ?_, upd_same, fun j hj => ?_, h.good, h.ne, h.n2, h.m2, h.plc⟩
  · rw [upd_ne (ne_of ep e (by intro z; cases z))]; exact ep
  · rw [upd_ne (Ne.symm h.plc)]; exact ec
  · rw [upd_ne (n0 _ _ _ _ h.book)]; exact h.book
  · rw [upd_ne (ne_of h.rl e (by intro z; cases z))]; exact h.rl
  · rw [upd_ne (n0 _ _ _ _ (h.rd j hj))]; exact h.rd j hj
/-- values are put -/
theorem LawAt.more {j : Int} (h : LawAt CL CR c p B db RL PL r d ns n m t q z H) (hj : 0 ≤ j) : LawAt CL CR c p B db RL PL r d ns n m (t + j) q z (upd H B (.ins CL db (lgF m n (t + j)))) := by
  obtain ⟨⟨i, b, k, y, ep, hi⟩, ec, nc, ln⟩ := h.pool
  have e := h.book
  have n0 : ∀ x xs, H x = some (.lst xs) → x ≠ B := fun x xs z => ne_of z e (by intro q; cases q)
  refine ⟨⟨⟨i, b, k, y, ?_, hi⟩, ?_, nc, ln⟩, upd_same, ?_, ?_, fun j hj => ?_, fun j hj' => (h.good j hj').more hj, h.ne, h.n2, h.m2, h.plc⟩
  · rw [upd_ne (n0 _ _ ep)]; exact ep
  · rw [upd_ne (n0 _ _ ec)]; exact ec
  · rw [upd_ne (n0 _ _ h.rl)]; exact h.rl
  · rw [upd_ne (n0 _ _ h.pl)]; exact h.pl
  · rw [upd_ne (ne_of (h.rd j hj) e (by intro z; injection z with _ _ z; cases z))]; exact h.rd j hj
end
end K61
/-! law. -/
namespace K61
open PySem L2
def spLaw (K : PySem.W.Frag) : Sp := fun vs H Q _ => ∃ (sc : Addr) (zs : List Int), vs = [.ref sc] ∧ SqL K H sc (zs.map V.int) ∧ zs.length ≤ 63 ∧ ∀ H2, Q (.bl true) H2
/-- the law's names -/
abbrev lawN : List Str := ["_law_script", "_law_pool_here", "_law_row", "_law_n", "_law_modulus", "_law_book", "_law_total", "_law_k", "_law_passed", "_law_readers", "_law_which", "_law_reader", "_law_deed", "_law_many", "_law_limit", "_law_wanted", "_law_after", "_law_found", "_law_place", "_law_one"]
/-- what the law rests on -/
structure Uses (P : Program) (w : World) (K : PySem.W.Frag) (mg : Str → Option Value) (base : Heap) (CL CR CF CS : Addr) : Prop where
  T : Txt K mg CL CR CF CS
  pool : Def1 P w K mg base 1 "_law_pool" ["_law_script"] (spPool K)
  draw : Def1 P w K mg base 2 "_law_draw" ["_law_pool_here", "_law_many"] spDraw
  wide : Def1 P w K mg base 3 "_law_wide" ["_law_pool_here", "_law_most"] spWide
  made : Def1 P w K mg base 6 "_law_made" ["_law_row", "_law_manner"] (spMade CF CS)
  setting : Def1 P w K mg base 4 "_law_setting" ["_law_pool_here"] spSetting
  walk : Def1 P w K mg base 2 "_law_walk" ["_law_passed", "_law_total", "_law_n", "_law_modulus", "_law_limit"] spWalk
  rows : Def1 P w K mg base 10 "_law_rows" ["_law_reader", "_law_deed", "_law_limit"] (spRows CL CR)
  amount : Def1 P w K mg base 4 "_law_amount" ["_law_pool_here", "_law_n", "_law_modulus"] spAmount
  log : Mak1 P w K mg base 6 CL ["self", "scheme", "n"] (spLogInit CF CS CL)
  iadd : Mth1 P w K mg base 3 CL "__iadd__" ["self", "other"] (spIadd CL)
  reader : MakK P w K mg base 3 CR ["self", "log", "back"] 2 ["back"] (spRdInit CL CR)
  call : Mth1 P w K mg base 5 CR "__call__" ["self"] (spCall CL CR)
  lag : Prp1 P w K mg base 3 CR "lag" (spLag CL CR)
  bel : Prp1 P w K mg base 3 CR "believed" (spBel CL CR)
  put : Prp1 P w K mg base 1 CL "put_count" (getSp CL "laid")
theorem iadd_ref {CL : Addr} : ∀ vs H Q, spIadd CL vs H Q E0 → spIadd CL vs H (fun v H' => (∃ a, v = .ref a) ∧ Q v H') E0 := fun vs H Q ⟨x, dx, m, n, t, j, e, ex, h0, h1, q⟩ => ⟨x, dx, m, n, t, j, e, ex, h0, h1, ⟨x, rfl⟩, q⟩
theorem WrV.same {CF : Addr} {H H' : Hp} {v : V} {n m : Int} (h : WrV CF H v n m) (s : Same H H') : WrV CF H' v n m := by
  rcases h with h | ⟨a, dx, p, q, e, ea, z⟩
  · exact .inl h
  · exact .inr ⟨a, dx, p, q, e, s _ _ ea, z⟩
theorem LogSch.same {CF CS a : Addr} {H H' : Hp} {n m : Int} (h : LogSch CF CS H a n m) (s : Same H H') : LogSch CF CS H' a n m := by
  obtain ⟨dx, wv, sl, em, fu, e, h1, h2, hw, r⟩ := h
  exact ⟨dx, wv, sl, em, fu, s _ _ e, h1, h2, hw.same s, r⟩
theorem setF_self {f : Nat → Int} {i : Nat} : setF f i (f i) = f := funext fun j => by
  unfold setF
  split
  · rename_i h; rw [h]
  · rfl
theorem in14 {v : Int} (h0 : 0 ≤ v) (h1 : v < 5) (h : inV (.int v) [.int 1, .int 4] = true) : v = 1 ∨ v = 4 := by
  have hv : v = 0 ∨ v = 1 ∨ v = 2 ∨ v = 3 ∨ v = 4 := by omega
  rcases hv with rfl | rfl | rfl | rfl | rfl
  · cases h
  · exact .inl rfl
  · cases h
  · cases h
  · exact .inr rfl
theorem dp3 {K : PySem.W.Frag} {H : Hp} {f : Nat → Int} : DpAll K H (L3 fun i => .int (f i)) [.int (f 0), .int (f 1), .int (f 2)] := .cons (.int _) (.cons (.int _) (.cons (.int _) .nil))
theorem sh3 {a b c : Int} : SeqAt.shaped (.list [.int a, .int b, .int c]) = true := shaped_of (ints_lay [a, b, c]) (ints_depth [a, b, c])
theorem shN : SeqAt.shaped (.list [.none]) = true := shaped_of (by simp [PyData.canLayAll0, PyData.canLay0]) (by simp [PyData.depthAll, PyData.depth])
theorem three {α : Type} {xs : List α} (h : xs.length = 3) : ∃ a b c, xs = [a, b, c] := by
  match xs, h with
  | [a, b, c], _ => exact ⟨a, b, c, rfl⟩
/-- the slots in the loop -/
abbrev lawS (a p row B PL RL : Addr) (n m t : Int) (v7 v10 v11 v12 v13 v14 v15 v16 v17 v18 v19 : Option V) : L2.St :=
  [some (.ref a), some (.ref p), some (.ref row), some (.int n), some (.int m), some (.ref B), some (.int t), v7, some (.ref PL), some (.ref RL), v10, v11, v12, v13, v14, v15, v16, v17, v18, v19]
section
variable {P : Program} {w : World} {K : PySem.W.Frag} {mg : Str → Option Value} {base : Heap} {f CL CR CF CS : Addr} {fd : FuncData}
theorem scLaw : FnScope lawN ["_law_script"] (defScope tLaw) := ⟨rfl, rfl, rfl, by decide +kernel, rfl, by decide +kernel, by decide +kernel⟩
theorem ok_law (F : Fun K "law" "law" tLaw f fd) (U : Uses P w K mg base CL CR CF CS) : FnOk P w K mg base CX0 11 f fd ["_law_script"] (spLaw K) := by
  have T := U.T
  refine F.ok scLaw (fun vs H Q E h => ?_) (fun cdv A outer s H vs Q E hr h => ?_)
  · obtain ⟨a, ns, rfl, _⟩ := h
    rfl
  · obtain ⟨a, ns, rfl, hq, hl, kk⟩ := h
    have nd := scLaw.nd
    have hr2 : Room 2 _ := hr.mono (by decide)
    have hr3 : Room 3 _ := hr.mono (by decide)
    have hr4 : Room 4 _ := hr.mono (by decide)
    have hr6 : Room 6 _ := hr.mono (by decide)
    have hr7 : Room 7 _ := hr.mono (by decide)
    have hu := hr.units
    refine ⟨_, pss_cons (ps_set (i := 1) nd rfl (Or.inr rfl) (call1 U.pool (hr.mono (by decide)) (pa_cons (pv 0) pa_nil)))
      (pss_cons (ps_asg (call1 U.setting hr4 (pa_cons (pv 1) pa_nil)) (pg_tup rfl (pgs_cons (pg_name (i := 2) nd rfl (Or.inl rfl)) (pgs_cons (pg_name (i := 3) nd rfl (Or.inl rfl)) (pgs_cons (pg_name (i := 4) nd rfl (Or.inr rfl)) pgs_nil)))))
      (pss_cons (ps_set (i := 5) nd rfl (Or.inr rfl) (make1 U.log hr7 T.gL (pa_cons (call1 U.made hr6 (pa_cons (pv 2) (pa_cons pe_str pa_nil))) (pa_cons (pv 3) pa_nil))))
      (pss_cons (ps_set (i := 6) nd rfl (Or.inr rfl) (call1 U.wide hr3 (pa_cons (pv 1) (pa_cons (pe_op op_pow pe_int pe_int) pa_nil))))
      (pss_cons (ps_aug (i := 5) nd rfl (Or.inr rfl) (pv 6) (ip_own U.iadd T.selfL hr3 iadd_ref))
      (C8.pss_cut (ps_setLc (i := 8) (own := [("_law_k", 7)]) (g := gName 7) (tt := tYes) rfl nd rfl rfl (by rfl) (pi_range1 rfl T.range (pa_cons pe_int pa_nil)) (blkOk_by (N := lawN) (sc := defScope tLaw) (by decide +kernel))
        (fun _ _ _ _ _ => pg_name (i := 7) nd rfl (Or.inl rfl)) (fun _ _ _ _ _ => pts_nil)
        (fun _ _ _ _ _ => pe_op op_sub (pv 6) (pe_op op_mod (pe_callTy call_int1 (by rfl) T.int bInt (pa_cons (call1 U.wide hr3 (pa_cons (pv 1) (pa_cons (pe_op op_pow pe_int pe_int) pa_nil))) pa_nil)) (pe_op op_add (pv 6) pe_int))))
      (C8.pss_cut (ps_setLc (i := 9) (own := [("_law_place", 18)]) (g := gName 18) (tt := tYes) rfl nd rfl rfl (by rfl) (pi_list (pv 8)) (blkOk_by (N := lawN) (sc := defScope tLaw) (by decide +kernel))
        (fun _ _ _ _ _ => pg_name (i := 18) nd rfl (Or.inl rfl)) (fun _ _ _ _ _ => pts_nil)
        (fun _ _ _ _ _ => makeK (n := 1) U.reader hr4 T.gR (pa_cons (pv 5) pa_nil) (pk_cons (pe_op op_sub (pv 6) (pv 18)) pk_nil)))
      (pss_cons (ps_for PassesOwn.never rfl (pi_range1 rfl T.range (pa_cons (pe_op op_add pe_int (call1 U.draw hr2 (pa_cons (pv 1) (pa_cons pe_int pa_nil)))) pa_nil)) (pg_name (i := 7) nd rfl (Or.inl rfl))
        (pss_cons (ps_set (i := 10) nd rfl (Or.inl rfl) (call1 U.draw hr2 (pa_cons (pv 1) (pa_cons pe_int pa_nil))))
        (pss_cons (ps_set (i := 11) nd rfl (Or.inl rfl) (pe_ix ix_list (pv 9) (pv 10) (fun _ _ => rfl)))
        (pss_cons (ps_set (i := 12) nd rfl (Or.inl rfl) (call1 U.draw hr2 (pa_cons (pv 1) (pa_cons pe_int pa_nil))))
        (C8.pss_cut (ps_if (pt_cmpR op_eq (pv 12) pe_int (nomark _)) (pss_cons (ps_set (i := 13) nd rfl (Or.inl rfl) (call1 U.amount hr4 (pa_cons (pv 1) (pa_cons (pv 3) (pa_cons (pv 4) pa_nil)))))
          (pss_cons (ps_aug (i := 5) nd rfl (Or.inr rfl) (pv 13) (ip_own U.iadd T.selfL hr3 iadd_ref)) (pss_one (ps_set (i := 6) nd rfl (Or.inr rfl) (pe_op op_add (pv 6) (pv 13)))))) pss_nil)
        (C8.pss_cut (ps_if (pt_cmpR op_in_seq (pv 12) (pe_tup (pa_cons pe_int (pa_cons pe_int pa_nil))) (by rfl))
          (pss_cons (ps_set (i := 14) nd rfl (Or.inl rfl) (pe_ix ix_tup (pe_tup (pa_cons (call1 U.draw hr2 (pa_cons (pv 1) (pa_cons pe_int pa_nil))) (pa_cons (pe_op op_add pe_int (call1 U.draw hr2 (pa_cons (pv 1) (pa_cons pe_int pa_nil)))) pa_nil)))
            (pe_callTy call_int1 (by rfl) T.int bInt (pa_cons (pe_cmpR op_eq (pv 12) pe_int (nomark _)) pa_nil)) (fun _ _ => rfl)))
          (pss_cons (ps_asg (call1 U.walk hr2 (pa_cons (pe_ix ix_list (pv 8) (pv 10) (fun _ _ => rfl)) (pa_cons (pv 6) (pa_cons (pv 3) (pa_cons (pv 4) (pa_cons (pv 14) pa_nil)))))) (pg_tup rfl (pgs_cons (pg_name (i := 15) nd rfl (Or.inl rfl)) (pgs_cons (pg_name (i := 16) nd rfl (Or.inl rfl)) pgs_nil))))
          (pss_cons (ps_if (pt_cmpR (op_neD hu) (call1 U.rows hr (pa_cons (pv 11) (pa_cons (pv 12) (pa_cons (pv 14) pa_nil)))) (pv 15) (nomark _)) (pss_one (ps_ret pe_bl)) pss_nil)
          (pss_one (ps_asg (pv 16) (pg_sub (pv 8) (pv 10) set_list)))))) pss_nil)
        (C8.pss_cut (ps_if (pt_cmpR op_in_seq (pv 12) (pe_tup (pa_cons pe_int (pa_cons pe_int pa_nil))) (by rfl))
          (pss_cons (ps_asg (call1 U.walk hr2 (pa_cons (pe_ix ix_list (pv 8) (pv 10) (fun _ _ => rfl)) (pa_cons (pv 6) (pa_cons (pv 3) (pa_cons (pv 4) (pa_cons pe_int pa_nil)))))) (pg_tup rfl (pgs_cons (pg_name (i := 15) nd rfl (Or.inl rfl)) (pgs_cons (pg_name (i := 16) nd rfl (Or.inl rfl)) pgs_nil))))
          (pss_cons (ps_set (i := 17) nd rfl (Or.inl rfl) (pe_callOwn (pv 11) U.call (hr.mono (by decide))))
          (pss_cons (ps_if (pt_cmpR (op_neD hu) (pe_lst (pa_cons (pv 17) pa_nil)) (pe_op op_cat (pv 15) (pe_slice sl_list (pe_lst (pa_cons pe_non pa_nil)) (po_some (pe_callB call_len_seq (by rfl) T.len bLen (pa_cons (pv 15) pa_nil))) po_none)) (by rfl)) (pss_one (ps_ret pe_bl)) pss_nil)
          (pss_one (ps_asg (pv 16) (pg_sub (pv 8) (pv 10) set_list)))))) pss_nil)
        (pss_cons (ps_if (PW.pt (pw_or (pt_cmpR (op_neD hu)
            (pe_lc (own := [("_law_one", 19)]) (g := gName 19) (tt := tYes) rfl nd (pi_list (pv 9)) (blkOk_by (N := lawN) (sc := defScope tLaw) (by decide +kernel)) (fun _ _ _ _ _ => pg_name (i := 19) nd rfl (Or.inl rfl)) (fun _ _ _ _ _ => pts_nil) (fun _ _ _ _ _ => prop1 (pv 19) T.cR U.lag hr4))
            (pe_lc (own := [("_law_place", 18)]) (g := gName 18) (tt := tYes) rfl nd (pi_list (pv 8)) (blkOk_by (N := lawN) (sc := defScope tLaw) (by decide +kernel)) (fun _ _ _ _ _ => pg_name (i := 18) nd rfl (Or.inl rfl)) (fun _ _ _ _ _ => pts_nil) (fun _ _ _ _ _ => pe_op op_sub (pv 6) (pv 18))) (by rfl))
          (pw_or1 (pt_cmpR op_ne (prop1 (pv 5) T.cL U.put hr2) (pv 6) (nomark _))))) (pss_one (ps_ret pe_bl)) pss_nil)
        (pss_one (ps_if (pt_cmpR (op_neD hu)
            (pe_lc (own := [("_law_one", 19)]) (g := gName 19) (tt := tYes) rfl nd (pi_list (pv 9)) (blkOk_by (N := lawN) (sc := defScope tLaw) (by decide +kernel)) (fun _ _ _ _ _ => pg_name (i := 19) nd rfl (Or.inl rfl)) (fun _ _ _ _ _ => pts_nil) (fun _ _ _ _ _ => prop1 (pv 19) T.cR U.bel hr4))
            (pe_lc (own := [("_law_place", 18)]) (g := gName 18) (tt := tYes) rfl nd (pi_list (pv 8)) (blkOk_by (N := lawN) (sc := defScope tLaw) (by decide +kernel)) (fun _ _ _ _ _ => pg_name (i := 18) nd rfl (Or.inl rfl)) (fun _ _ _ _ _ => pts_nil)
              (fun _ _ _ _ _ => pe_op op_mod (pe_callTy call_int1 (by rfl) T.int bInt (pa_cons (pe_op op_sub (pv 6) (pv 18)) pa_nil)) (pv 4))) (by rfl)) (pss_one (ps_ret pe_bl)) pss_nil))))))))))
      (pss_one (ps_ret pe_bl)))))))))
      , ?_⟩
    -- the pool, the setting
    refine ⟨_, rfl, a, ns, rfl, hq, hl, fun H1 p c s1 np P1 => ?_⟩
    refine ⟨_, rfl, c, p, ns, rfl, P1, fun H2 a2 row n m P2 kp2 e2 rowV m2 => ?_⟩
    refine ⟨a2, _, rfl, SqT.of e2, rfl, _, _, rfl, _, _, rfl, _, _, rfl, rfl, ?_⟩
    -- the log
    refine ⟨_, rfl, row, n, m, rfl, rowV, fun H3 sch s3 ls => ?_⟩
    refine ⟨_, rfl, fun B db nB ndB neB => ?_⟩
    have s4 : Same H3 (upd (upd H3 db (.own B)) B (.ins CL db [])) := fun b o e => by
      rw [upd_ne (ne_of_none e nB), upd_ne (ne_of_none e ndB)]
      exact e
    refine ⟨B, db, sch, n, m, rfl, upd_same, ls.same s4, rfl, ?_⟩
    have s5 := same_made (C := CL) (fs := lgF m n 0) nB ndB
    have P4 := (P2.same s3).same s5
    have eB4 : (upd (upd (upd H3 db (.own B)) B (.ins CL db [])) B (.ins CL db (lgF m n 0))) B = some (.ins CL db (lgF m n 0)) := upd_same
    generalize upd (upd (upd H3 db (.own B)) B (.ins CL db [])) B (.ins CL db (lgF m n 0)) = H4 at P4 eB4 ⊢
    -- the values
    refine ⟨_, rfl, _, _, rfl, rfl, ⟨by decide, by decide, by decide⟩, c, p, ns, _, rfl, P4, by decide, fun t H5 t0 t1 T5 => ?_⟩
    have t1' : t ≤ 10 ^ 38 := t1
    have eB5 : H5 B = some (.ins CL db (lgF m n 0)) := by
      obtain ⟨⟨i, b, k, y, ep, _⟩, _⟩ := P4
      exact T5.keep eB4 (ne_of eB4 ep (by intro z; cases z))
    refine ⟨_, rfl, _, rfl, B, db, _, rfl, eB5, B, db, m, n, 0, t, rfl, eB5, t0, by omega, ?_⟩
    rw [Int.zero_add]
    have P6 : PoolAt c p ns (upd H5 B (.ins CL db (lgF m n t))) := by
      obtain ⟨⟨i, b, k, y, ep, hi⟩, ec, nc, ln⟩ := T5.at_
      have n1 : p ≠ B := ne_of ep eB5 (by intro z; cases z)
      have n2 : c ≠ B := ne_of ec eB5 (by intro z; cases z)
      exact ⟨⟨i, b, k, y, (upd_ne n1).trans ep, hi⟩, (upd_ne n2).trans ec, nc, ln⟩
    have eB6 : (upd H5 B (.ins CL db (lgF m n t))) B = some (.ins CL db (lgF m n t)) := upd_same
    generalize upd H5 B (.ins CL db (lgF m n t)) = H6 at P6 eB6 ⊢
    -- the counters
    refine ⟨fun σ' H' => ∃ (PL : Addr) (zs : List Int), σ' = [some (.ref a), some (.ref p), some (.ref row), some (.int n), some (.int m), some (.ref B), some (.int t), none, some (.ref PL), none, none, none, none, none, none, none, none, none, none, none] ∧
      zs.length = 3 ∧ (∀ z ∈ zs, 0 ≤ z ∧ z ≤ t) ∧ PoolAt c p ns H' ∧ H' B = some (.ins CL db (lgF m n t)) ∧ H' PL = some (.lst (zs.map V.int)) ∧ PL ≠ c, ?_, ?_⟩
    · refine ⟨3, rfl, by decide, by decide, fun D hD => ?_⟩
      refine lc_range (n := 3) (fun i H' => ∃ zs : List Int, zs.length = i ∧ (∀ z ∈ zs, 0 ≤ z ∧ z ≤ t) ∧ PoolAt c p ns H' ∧ H' B = some (.ins CL db (lgF m n t)) ∧ H' D = some (.lst (zs.map V.int)) ∧ D ≠ c) ?_ ?_ ?_
      · exact ⟨[], rfl, (fun z hz => nomatch hz), P6.same (same_new hD), same_new hD _ _ eB6, upd_same, Ne.symm (ne_of_none P6.ce hD)⟩
      · rintro i H' hi ⟨zs, hz, hb, P', eB', eD', nDc⟩
        refine ⟨rfl, yes_if ?_⟩
        refine ⟨_, rfl, _, rfl, _, _, rfl, rfl, ⟨by decide, by decide, by decide⟩, c, p, ns, _, rfl, P', by decide, fun v Hv v0 v1 Tv => ?_⟩
        have tp : 0 < t + 1 := by omega
        refine .inl ⟨_, rfl, _, rfl, _, _, rfl, rfl, _, _, rfl, rfl, tp, _, _, rfl, rfl, ?_⟩
        have r0 := Int.emod_nonneg v (Int.ne_of_gt tp)
        have r1 := Int.emod_lt_of_pos v tp
        obtain ⟨⟨i', b', k', y', ep', hi'⟩, _⟩ := id P'
        have nDp : D ≠ p := ne_of eD' ep' (by
          intro q
          injection q with q
          cases zs with
          | nil => cases q
          | cons z zs => cases q)
        have eDv := Tv.keep eD' nDp
        have eBv := Tv.keep eB' (ne_of eB' ep' (by intro q; cases q))
        refine ⟨_, eDv, small1000 (by rw [List.length_map]; omega), zs ++ [t - v % (t + 1)], by rw [List.length_append, List.length_singleton, hz], fun z hz' => ?_, ?_, ?_, ?_, nDc⟩
        · rcases List.mem_append.mp hz' with h | h
          · exact hb z h
          · rw [List.mem_singleton.mp h]
            omega
        · obtain ⟨⟨i2, b2, k2, y2, ep2, hi2⟩, ec2, nc2, ln2⟩ := Tv.at_
          exact ⟨⟨i2, b2, k2, y2, (upd_ne (Ne.symm nDp)).trans ep2, hi2⟩, (upd_ne (Ne.symm nDc)).trans ec2, nc2, ln2⟩
        · rw [upd_ne (ne_of eBv eDv (by intro q; cases q))]
          exact eBv
        · rw [upd_same, List.map_append]
          rfl
      · rintro H' ⟨zs, hz, hb, P', eB', eD', nDc⟩
        exact ⟨D, zs, rfl, hz, hb, P', eB', eD', nDc⟩
    rintro σ' H7 ⟨PL, zs, rfl, hz, hb, P7, eB7, eP7, nPc⟩
    -- the readers
    refine ⟨fun σ' H' => ∃ (RL : Addr) (r d : Nat → Addr) (q : Nat → Int), σ' = lawS a p row B PL RL n m t none none none none none none none none none none none ∧ LawAt CL CR c p B db RL PL r d ns n m t q q H', ?_, ?_⟩
    · refine ⟨_, rfl, PL, rfl, ⟨_, SqL.of eP7⟩, fun D hD => ?_⟩
      refine lc_list (K := K) (a := PL) (xs := zs.map V.int) (fun i H' => ∃ rl : List (Addr × Addr), rl.length = i ∧ (rl.map (·.1)).Nodup ∧ (∀ (j : Nat) (pr : Addr × Addr) (z : Int), rl[j]? = some pr → zs[j]? = some z → H' pr.1 = some (.ins CR pr.2 (rdF B z))) ∧
        Same H7 H' ∧ H' D = some (.lst (rl.map fun pr => V.ref pr.1))) ?_ (fun i H' _ h => ?_) ?_ ?_
      · exact ⟨[], rfl, List.nodup_nil, (fun j pr z h => nomatch h), same_new hD, upd_same⟩
      · obtain ⟨rl, _, _, _, s, _⟩ := h
        exact SqL.of (s _ _ eP7)
      · rintro i y H' hi ⟨rl, hrl, hnd, hat, s, eD'⟩
        obtain ⟨z, hzi, rfl⟩ : ∃ z, zs[i]? = some z ∧ y = V.int z := by
          rw [List.getElem?_map] at hi
          cases e : zs[i]? with
          | none => rw [e] at hi; cases hi
          | some z => rw [e] at hi; exact ⟨z, rfl, (Option.some.inj hi).symm⟩
        obtain ⟨z0, z1⟩ := hb z (List.mem_of_getElem? hzi)
        refine ⟨rfl, yes_if ?_⟩
        refine ⟨_, rfl, _, rfl, _, rfl, _, _, rfl, rfl, rfl, rfl, fun x dx nx ndx ne => ?_⟩
        have s8 : Same H' (upd (upd H' dx (.own x)) x (.ins CR dx [])) := fun b o e => by
          rw [upd_ne (ne_of_none e nx), upd_ne (ne_of_none e ndx)]
          exact e
        refine ⟨x, dx, B, db, m, n, t, t - z, rfl, upd_same, s8 _ _ (s _ _ eB7), by omega, by omega, rfl, ?_⟩
        have s9 := same_made (C := CR) (fs := rdF B (t - (t - z))) nx ndx
        refine ⟨_, s9 _ _ eD', small1000 (by rw [List.length_map, hrl]; have := (List.getElem?_eq_some_iff.mp hzi).1; omega), rl ++ [(x, dx)], by rw [List.length_append, List.length_singleton, hrl], ?_, ?_, ?_, ?_⟩
        · rw [List.map_append, List.nodup_append]
          refine ⟨hnd, by simp, fun u hu v hv => ?_⟩
          obtain rfl : v = x := by simpa using hv
          rintro rfl
          obtain ⟨pr, hpr, hpe⟩ := List.mem_map.mp hu
          obtain ⟨j, hj⟩ := List.mem_iff_getElem?.mp hpr
          have hjl := (List.getElem?_eq_some_iff.mp hj).1
          have hil := (List.getElem?_eq_some_iff.mp hzi).1
          have e := hat j pr zs[j] hj (List.getElem?_eq_getElem (by omega))
          rw [hpe] at e
          have nx' : H' u = none := nx
          rw [nx'] at e
          cases e
        · intro j pr z' hj hzj
          by_cases hji : j < rl.length
          · rw [List.getElem?_append_left hji] at hj
            have e := s9 _ _ (hat j pr z' hj hzj)
            rw [upd_ne (ne_of e (s9 _ _ eD') (by intro q; cases q))]
            exact e
          · have hjl := (List.getElem?_eq_some_iff.mp hj).1
            rw [List.length_append, List.length_singleton] at hjl
            have hje : j = i := by omega
            subst hje
            rw [List.getElem?_append_right (by omega), hrl, Nat.sub_self] at hj
            cases hj
            rw [hzi] at hzj
            cases hzj
            have exz : (upd (upd (upd H' dx (.own x)) x (.ins CR dx [])) x (.ins CR dx (rdF B (t - (t - z))))) x = some (.ins CR dx (rdF B (t - (t - z)))) := upd_same
            rw [upd_ne (ne_of exz (s9 _ _ eD') (by intro q; cases q)), exz, Int.sub_sub_self]
        · intro b o e
          rw [upd_ne (ne_of_none e hD)]
          exact s9 _ _ (s _ _ e)
        · rw [upd_same, List.map_append]
          rfl
      · rintro H' ⟨rl, hrl, hnd, hat, s, eD'⟩
        rw [List.length_map, hz] at hrl
        obtain ⟨z0, z1, z2, rfl⟩ := three hz
        obtain ⟨p0, p1, p2, rfl⟩ := three (hrl.trans rfl)
        refine ⟨D, fun i => match i with | 0 => p0.1 | 1 => p1.1 | _ => p2.1, fun i => match i with | 0 => p0.2 | 1 => p1.2 | _ => p2.2, fun i => match i with | 0 => z0 | 1 => z1 | _ => z2, rfl, ?_⟩
        obtain ⟨b00, b01⟩ := hb z0 (by simp)
        obtain ⟨b10, b11⟩ := hb z1 (by simp)
        obtain ⟨b20, b21⟩ := hb z2 (by simp)
        have hm0 : 0 < m := by have := rowV.m1; omega
        have hn0 : 0 < n := by have := rowV.n1; omega
        refine ⟨P7.same s, s _ _ eB7, eD', s _ _ eP7, fun i hi => ?_, fun i hi => ?_, fun i j hi hj hne => ?_, rowV.n2, m2, nPc⟩
        · match i, hi with
          | 0, _ => exact hat 0 p0 z0 rfl rfl
          | 1, _ => exact hat 1 p1 z1 rfl rfl
          | 2, _ => exact hat 2 p2 z2 rfl rfl
        · match i, hi with
          | 0, _ => exact ⟨hn0, hm0, rowV.nm, b00, b01⟩
          | 1, _ => exact ⟨hn0, hm0, rowV.nm, b10, b11⟩
          | 2, _ => exact ⟨hn0, hm0, rowV.nm, b20, b21⟩
        · have hnd' : p0.1 ≠ p1.1 ∧ p0.1 ≠ p2.1 ∧ p1.1 ≠ p2.1 := by
            simp at hnd
            exact ⟨hnd.1.1, hnd.1.2, hnd.2⟩
          obtain ⟨q1, q2, q3⟩ := hnd'
          match i, j, hi, hj, hne with
          | 0, 0, _, _, h => exact absurd rfl h
          | 0, 1, _, _, _ => exact q1
          | 0, 2, _, _, _ => exact q2
          | 1, 0, _, _, _ => exact q1.symm
          | 1, 1, _, _, h => exact absurd rfl h
          | 1, 2, _, _, _ => exact q3
          | 2, 0, _, _, _ => exact q2.symm
          | 2, 1, _, _, _ => exact q3.symm
          | 2, 2, _, _, h => exact absurd rfl h
    rintro σ' H8 ⟨RL, r, d, q, rfl, A8⟩
    clear eP7 hb hz
    refine ⟨_, rfl, c, p, ns, _, rfl, A8.pool, by decide, by decide, fun v9 H9 v90 v91 T9 => ?_⟩
    have A9 := A8.pt T9
    refine ⟨_, _, rfl, rfl, 1 + v9, rfl, by omega, by omega, ?_⟩
    refine for_range (n := (1 + v9).toNat) (fun i σ H' => ∃ (t : Int) (q : Nat → Int) (v7 v10 v11 v12 v13 v14 v15 v16 v17 v18 v19 : Option V), σ = lawS a p row B PL RL n m t v7 v10 v11 v12 v13 v14 v15 v16 v17 v18 v19 ∧ LawAt CL CR c p B db RL PL r d ns n m t q q H') ⟨t, q, _, _, _, _, _, _, _, _, _, _, _, rfl, A9⟩ ?_ ?_
    · rintro i σ H0 hi ⟨t, q, v7, v10, v11, v12, v13, v14, v15, v16, v17, v18, v19, rfl, A⟩
      have n0 : 0 < n := (A.good 0 (by omega)).n0
      have m0 : 0 < m := (A.good 0 (by omega)).m0
      refine ⟨_, rfl, c, p, ns, _, rfl, A.pool, by decide, by decide, fun w1 Hw w10 w11 Tw => ?_⟩
      have A1 := A.pt Tw
      have hj : w1.toNat < 3 := by omega
      refine ⟨_, rfl, _, rfl, RL, _, _, _, rfl, rfl, SqL.of A1.rl, L3.atI w10 w11, ?_⟩
      refine ⟨_, rfl, c, p, ns, _, rfl, A1.pool, by decide, by decide, fun dd Hd d0 d1 Td => ?_⟩
      have A2 := A1.pt Td
      -- puts
      refine ⟨fun σ' H' => ∃ (t : Int) (v13 : Option V), σ' = lawS a p row B PL RL n m t (some (.int (0 + (i : Int)))) (some (.int w1)) (some (.ref (r w1.toNat))) (some (.int dd)) v13 v14 v15 v16 v17 v18 v19 ∧ LawAt CL CR c p B db RL PL r d ns n m t q q H', ?_, ?_⟩
      · refine ⟨_, rfl, rfl, _, rfl, ?_⟩
        refine ite2 (fun _ => ?_) (fun _ => ⟨t, v13, rfl, A2⟩)
        refine ⟨_, rfl, _, rfl, _, rfl, c, p, ns, n, m, rfl, A2.pool, by omega, A2.n2, by omega, A2.m2, fun j2 Hj j0 j1 Tj => ?_⟩
        have A3 := A2.pt Tj
        refine ⟨_, rfl, _, rfl, B, db, _, rfl, A3.book, B, db, m, n, t, j2, rfl, A3.book, j0, j1, ?_⟩
        exact ⟨_, rfl, _, rfl, _, _, rfl, rfl, t + j2, _, rfl, A3.more j0⟩
      clear A2 A1 A Td Tw
      rintro σ' H3 ⟨t, v13, rfl, A3⟩
      -- a walk
      refine ⟨fun σ' H' => ∃ (q : Nat → Int) (v14 v15 v16 : Option V), σ' = lawS a p row B PL RL n m t (some (.int (0 + (i : Int)))) (some (.int w1)) (some (.ref (r w1.toNat))) (some (.int dd)) v13 v14 v15 v16 v17 v18 v19 ∧ LawAt CL CR c p B db RL PL r d ns n m t q q H', ?_, ?_⟩
      · refine ⟨_, rfl, by show 2 ≤ sizeLine; decide, fun pt hpt => ?_⟩
        have A4 := A3.same (same_new (o := .tup [.int 1, .int 4]) hpt)
        refine ⟨pt, _, rfl, .inr (SqT.of upd_same), rfl, rfl, _, rfl, ?_⟩
        refine ite2 (fun hz => ?_) (fun _ => ⟨q, v14, v15, v16, rfl, A4⟩)
        have hdd := in14 d0 d1 hz
        refine ⟨_, rfl, c, p, ns, _, rfl, A4.pool, by decide, by decide, fun x1 Hx x10 x11 Tx => ?_⟩
        have A5 := A4.pt Tx
        refine ⟨_, rfl, c, p, ns, _, rfl, A5.pool, by decide, by decide, fun x2 Hy x20 x21 Ty => ?_⟩
        have A6 := A5.pt Ty
        refine ⟨_, _, rfl, rfl, by show 2 ≤ sizeLine; decide, fun u hu2 => ?_⟩
        have A7 := A6.same (same_new (o := .tup [.int x1, .int (1 + x2)]) hu2)
        obtain ⟨l, hat, hlc⟩ : ∃ l : Int, atI [V.int x1, V.int (1 + x2)] (if decide (V.int dd = V.int 4) = true then 1 else 0) = some (V.int l) ∧ ((dd = 1 ∧ 0 ≤ l ∧ l ≤ 100) ∨ (dd ≠ 1 ∧ 1 ≤ l ∧ l ≤ 100)) := by
          rcases hdd with h | h
          · subst h
            exact ⟨x1, rfl, .inl ⟨rfl, x10, by omega⟩⟩
          · subst h
            exact ⟨1 + x2, rfl, .inr ⟨by decide, by omega, by omega⟩⟩
        have hl01 : 0 ≤ l ∧ l ≤ 100 := by rcases hlc with h | h <;> omega
        refine ⟨_, rfl, rfl, .inr ⟨_, rfl, u, _, _, _, rfl, rfl, SqT.of upd_same, hat, ?_⟩⟩
        refine ⟨_, rfl, _, rfl, PL, _, _, _, rfl, rfl, SqL.of A7.pl, L3.atI w10 w11, _, rfl, _, rfl, _, rfl, _, rfl, q w1.toNat, t, n, m, l, rfl, n0, m0, hl01.1, hl01.2, fun Hk pw wl rs sk npw epw ewl tw => ?_⟩
        have A8 := A7.same sk
        refine ⟨pw, _, rfl, SqT.of epw, rfl, _, _, rfl, _, _, rfl, rfl, ?_⟩
        have erd := A8.rd _ hj
        refine ⟨_, rfl, _, rfl, _, rfl, r w1.toNat, d w1.toNat, B, db, m, n, t, q w1.toNat, dd, l, rfl, erd, A8.book, A8.good _ hj, hlc, fun Hr D rs2 kr er eD tr => ?_⟩
        have ewl2 := kr _ _ (ne_of ewl erd (by intro z; cases z)) ewl
        have tw2 : TupsAt Hr rs (reads n m t l.toNat (q w1.toNat)).1 := tw.same fun a zs e => kr a _ (ne_of e erd (by intro z; cases z)) e
        refine ⟨_, rfl, ?_⟩
        refine ne_same (pD_shaped (reads n m t l.toNat (q w1.toNat)).1) (.lst (SqL.of eD) (dp_pairs tr)) (.lst (SqL.of ewl2) (dp_pairs tw2)) ?_
        refine ⟨_, rfl, iteF ?_⟩
        have A9 := A8.read hj kr er (reads_good l.toNat (A8.good _ hj))
        refine ⟨_, rfl, _, rfl, _, rfl, PL, _, w1, _, rfl, rfl, A9.pl, L3.ix w10 w11, ?_⟩
        rw [L3.set hj]
        exact ⟨setF q w1.toNat (reads n m t l.toNat (q w1.toNat)).2, _, _, _, rfl, A9.put⟩
      clear A3
      rintro σ' H4 ⟨q, v14, v15, v16, rfl, A3⟩
      -- a read
      refine ⟨fun σ' H' => ∃ (q : Nat → Int) (v15 v16 v17 : Option V), σ' = lawS a p row B PL RL n m t (some (.int (0 + (i : Int)))) (some (.int w1)) (some (.ref (r w1.toNat))) (some (.int dd)) v13 v14 v15 v16 v17 v18 v19 ∧ LawAt CL CR c p B db RL PL r d ns n m t q q H', ?_, ?_⟩
      · refine ⟨_, rfl, by show 2 ≤ sizeLine; decide, fun pt hpt => ?_⟩
        have A4 := A3.same (same_new (o := .tup [.int 2, .int 3]) hpt)
        refine ⟨pt, _, rfl, .inr (SqT.of upd_same), rfl, rfl, _, rfl, ?_⟩
        refine ite2 (fun hz => ?_) (fun _ => ⟨q, v15, v16, v17, rfl, A4⟩)
        refine ⟨_, rfl, _, rfl, PL, _, _, _, rfl, rfl, SqL.of A4.pl, L3.atI w10 w11, _, rfl, _, rfl, _, rfl, q w1.toNat, t, n, m, 1, rfl, n0, m0, by decide, by decide, fun Hk pw wl rs sk npw epw ewl tw => ?_⟩
        have A8 := A4.same sk
        refine ⟨pw, _, rfl, SqT.of epw, rfl, _, _, rfl, _, _, rfl, rfl, ?_⟩
        have erd := A8.rd _ hj
        refine ⟨_, rfl, r w1.toNat, d w1.toNat, _, rfl, erd, r w1.toNat, d w1.toNat, B, db, m, n, t, q w1.toNat, rfl, erd, A8.book, A8.good _ hj, fun hd => ?_, fun lo v hd pp hpp => ?_⟩
        · have er : reads n m t (1 : Int).toNat (q w1.toNat) = ([], q w1.toNat) := reads_none hd
          rw [er] at tw
          cases tw
          rw [er]
          refine ⟨_, rfl, by show 1 ≤ sizeLine; decide, fun l1 hl1 => ?_⟩
          have s1 := same_new (o := .lst [.non]) hl1
          refine ⟨_, rfl, by show 1 ≤ sizeLine; decide, fun l2 hl2 => ?_⟩
          have s2 := s1.trans (same_new (o := .lst [.non]) hl2)
          refine ⟨_, rfl, wl, _, rfl, .inl (SqL.of (s2 _ _ ewl)), _, rfl, l2, _, rfl, SqL.of upd_same, fun l3 hl3 => ?_⟩
          have s3 := s2.trans (same_new (o := .lst [.non]) hl3)
          refine ⟨wl, l3, _, _, rfl, rfl, s3 _ _ ewl, upd_same, by show 1 ≤ sizeLine; decide, fun l4 hl4 => ?_⟩
          have s4 := s3.trans (same_new (o := .lst [.non]) hl4)
          have e1 := (same_new (o := .lst [.non]) hl4) _ _ ((same_new (o := .lst [.non]) hl3) _ _ ((same_new (o := .lst [.non]) hl2) l1 _ upd_same))
          refine ne_same shN (.lst (SqL.of e1) (.cons .non .nil)) (.lst (SqL.of upd_same) (.cons .non .nil)) ?_
          refine ⟨_, rfl, iteF ?_⟩
          have A9 := A8.same s4
          refine ⟨_, rfl, _, rfl, _, rfl, PL, _, w1, _, rfl, rfl, A9.pl, L3.ix w10 w11, ?_⟩
          rw [L3.set hj, setF_self]
          exact ⟨q, _, _, _, rfl, A9.put⟩
        · have er : reads n m t (1 : Int).toNat (q w1.toNat) = ([(lo, v)], q w1.toNat + lo + 1) := reads_some (k := 0) hd
          rw [er] at tw
          rw [er]
          have gd := due_good (A8.good _ hj) hd
          have nxp : r w1.toNat ≠ pp := ne_of_none upd_same hpp
          have hpk : Hk pp = none := by rw [upd_ne (Ne.symm nxp)] at hpp; exact hpp
          have kr : ∀ b o, b ≠ r w1.toNat → Hk b = some o → (upd (upd Hk (r w1.toNat) (.ins CR (d w1.toNat) (rdF B (q w1.toNat + lo + 1)))) pp (.tup [.int lo, .int v])) b = some o := fun b o hb e => by
            rw [upd_ne (ne_of_none e hpk), upd_ne hb]; exact e
          have ex : (upd (upd Hk (r w1.toNat) (.ins CR (d w1.toNat) (rdF B (q w1.toNat + lo + 1)))) pp (.tup [.int lo, .int v])) (r w1.toNat) = some (.ins CR (d w1.toNat) (rdF B (q w1.toNat + lo + 1))) := by
            rw [upd_ne nxp]; exact upd_same
          have ep : (upd (upd Hk (r w1.toNat) (.ins CR (d w1.toNat) (rdF B (q w1.toNat + lo + 1)))) pp (.tup [.int lo, .int v])) pp = some (.tup [.int lo, .int v]) := upd_same
          have A9 := A8.read hj kr ex gd
          have ew2 := kr _ _ (ne_of ewl erd (by intro z; cases z)) ewl
          have tw2 := tw.same fun a zs e => kr a _ (ne_of e erd (by intro z; cases z)) e
          generalize upd (upd Hk (r w1.toNat) (.ins CR (d w1.toNat) (rdF B (q w1.toNat + lo + 1)))) pp (.tup [.int lo, .int v]) = H5 at A9 ew2 tw2 ep ⊢
          have hrs : rs.length = 1 := tw2.length
          refine ⟨_, rfl, by show 1 ≤ sizeLine; decide, fun l1 hl1 => ?_⟩
          have s1 := same_new (o := .lst [.ref pp]) hl1
          refine ⟨_, rfl, by show 1 ≤ sizeLine; decide, fun l2 hl2 => ?_⟩
          have s2 := s1.trans (same_new (o := .lst [.non]) hl2)
          refine ⟨_, rfl, wl, _, rfl, .inl (SqL.of (s2 _ _ ew2)), _, rfl, l2, _, rfl, SqL.of upd_same, fun l3 hl3 => ?_⟩
          have hcut : cutV [V.non] (some ((rs.length : Nat) : Int)) none = [] := by rw [hrs]; rfl
          rw [hcut]
          have s3 := s2.trans (same_new (o := .lst []) hl3)
          refine ⟨wl, l3, _, _, rfl, rfl, s3 _ _ ew2, upd_same, by rw [hrs]; show 1 ≤ sizeLine; decide, fun l4 hl4 => ?_⟩
          rw [List.append_nil]
          have s4 := s3.trans (same_new (o := .lst rs) hl4)
          have e1 := (same_new (o := .lst rs) hl4) _ _ ((same_new (o := .lst []) hl3) _ _ ((same_new (o := .lst [.non]) hl2) l1 _ upd_same))
          have tw4 : TupsAt _ rs [(lo, v)] := tw2.same fun a zs e => s4 _ _ e
          refine ne_same (pD_shaped [(lo, v)]) (.lst (SqL.of e1) (.cons (.tup (SqT.of (s4 _ _ ep)) (.cons (.int _) (.cons (.int _) .nil))) .nil)) (.lst (SqL.of upd_same) (dp_pairs tw4)) ?_
          refine ⟨_, rfl, iteF ?_⟩
          have A10 := A9.same s4
          refine ⟨_, rfl, _, rfl, _, rfl, PL, _, w1, _, rfl, rfl, A10.pl, L3.ix w10 w11, ?_⟩
          rw [L3.set hj]
          exact ⟨setF q w1.toNat (q w1.toNat + lo + 1), _, _, _, rfl, A10.put⟩
      clear A3
      rintro σ' H5 ⟨q, v15, v16, v17, rfl, A5⟩
      -- what all readers tell
      refine ⟨_, rfl, RL, rfl, ⟨_, SqL.of A5.rl⟩, fun D1 hD1 => ?_⟩
      refine lc_list (K := K) (a := RL) (xs := L3 fun i => .ref (r i)) (fun i H' => Same H5 H' ∧ H' D1 = some (.lst ((L3 fun i => .int (t - q i)).take i))) ⟨same_new hD1, upd_same⟩ (fun i H' _ h => SqL.of (h.1 _ _ A5.rl)) ?_ ?_
      · rintro k y H' hk ⟨s, e⟩
        obtain ⟨hk3, hy⟩ := L3.of hk
        subst hy
        have As := A5.same s
        refine ⟨rfl, yes_if ?_⟩
        refine ⟨_, rfl, r k, d k, _, rfl, As.rd k hk3, r k, d k, B, db, m, n, t, q k, rfl, As.rd k hk3, As.book, ?_⟩
        refine ⟨_, e, small1000 (by rw [List.length_take]; show min k 3 ≤ 1000; omega), ?_, ?_⟩
        · intro b o eb
          rw [upd_ne (ne_of_none eb hD1)]
          exact s _ _ eb
        · rw [upd_same]
          exact congrArg (fun z => some (HO.lst z)) (L3.snoc (a := fun i => .int (t - q i)) hk3)
      rintro H6 ⟨s6, e6⟩
      have A6 := A5.same s6
      refine ⟨_, rfl, PL, rfl, ⟨_, SqL.of A6.pl⟩, fun D2 hD2 => ?_⟩
      refine lc_list (K := K) (a := PL) (xs := L3 fun i => .int (q i)) (fun i H' => Same H6 H' ∧ H' D2 = some (.lst ((L3 fun i => .int (t - q i)).take i))) ⟨same_new hD2, upd_same⟩ (fun i H' _ h => SqL.of (h.1 _ _ A6.pl)) ?_ ?_
      · rintro k y H' hk ⟨s, e⟩
        obtain ⟨hk3, hy⟩ := L3.of hk
        subst hy
        refine ⟨rfl, yes_if ?_⟩
        refine ⟨_, rfl, _, rfl, _, _, rfl, rfl, ?_⟩
        refine ⟨_, e, small1000 (by rw [List.length_take]; show min k 3 ≤ 1000; omega), ?_, ?_⟩
        · intro b o eb
          rw [upd_ne (ne_of_none eb hD2)]
          exact s _ _ eb
        · rw [upd_same]
          exact congrArg (fun z => some (HO.lst z)) (L3.snoc (a := fun i => .int (t - q i)) hk3)
      rintro H7 ⟨s7, e7⟩
      have A7 := A6.same s7
      refine ne_same sh3 (.lst (SqL.of (s7 _ _ e6)) (dp3 (f := fun i => t - q i))) (.lst (SqL.of e7) (dp3 (f := fun i => t - q i))) ?_
      refine ⟨_, rfl, iteF ?_⟩
      refine ⟨_, rfl, B, db, _, rfl, A7.book, B, db, _, _, rfl, A7.book, lg_laid _ _ _, _, rfl, rfl, _, rfl, ?_⟩
      refine iteNS rfl ?_
      clear e6 e7
      refine ⟨_, rfl, RL, rfl, ⟨_, SqL.of A7.rl⟩, fun D1 hD1 => ?_⟩
      refine lc_list (K := K) (a := RL) (xs := L3 fun i => .ref (r i)) (fun i H' => Same H7 H' ∧ H' D1 = some (.lst ((L3 fun i => .int ((t - q i) % m)).take i))) ⟨same_new hD1, upd_same⟩ (fun i H' _ h => SqL.of (h.1 _ _ A7.rl)) ?_ ?_
      · rintro k y H' hk ⟨s, e⟩
        obtain ⟨hk3, hy⟩ := L3.of hk
        subst hy
        have As := A7.same s
        refine ⟨rfl, yes_if ?_⟩
        refine ⟨_, rfl, r k, d k, _, rfl, As.rd k hk3, r k, d k, B, db, m, n, t, q k, rfl, As.rd k hk3, As.book, m0, ?_⟩
        refine ⟨_, e, small1000 (by rw [List.length_take]; show min k 3 ≤ 1000; omega), ?_, ?_⟩
        · intro b o eb
          rw [upd_ne (ne_of_none eb hD1)]
          exact s _ _ eb
        · rw [upd_same]
          exact congrArg (fun z => some (HO.lst z)) (L3.snoc (a := fun i => .int ((t - q i) % m)) hk3)
      rintro H8 ⟨s8, e8⟩
      have A8 := A7.same s8
      refine ⟨_, rfl, PL, rfl, ⟨_, SqL.of A8.pl⟩, fun D2 hD2 => ?_⟩
      refine lc_list (K := K) (a := PL) (xs := L3 fun i => .int (q i)) (fun i H' => Same H8 H' ∧ H' D2 = some (.lst ((L3 fun i => .int ((t - q i) % m)).take i))) ⟨same_new hD2, upd_same⟩ (fun i H' _ h => SqL.of (h.1 _ _ A8.pl)) ?_ ?_
      · rintro k y H' hk ⟨s, e⟩
        obtain ⟨hk3, hy⟩ := L3.of hk
        subst hy
        refine ⟨rfl, yes_if ?_⟩
        refine ⟨_, rfl, _, rfl, _, _, rfl, rfl, .inl ⟨_, rfl, _, rfl, _, _, rfl, rfl, m0, ?_⟩⟩
        refine ⟨_, e, small1000 (by rw [List.length_take]; show min k 3 ≤ 1000; omega), ?_, ?_⟩
        · intro b o eb
          rw [upd_ne (ne_of_none eb hD2)]
          exact s _ _ eb
        · rw [upd_same]
          exact congrArg (fun z => some (HO.lst z)) (L3.snoc (a := fun i => .int ((t - q i) % m)) hk3)
      rintro H9 ⟨s9, e9⟩
      refine ne_same sh3 (.lst (SqL.of (s9 _ _ e8)) (dp3 (f := fun i => (t - q i) % m))) (.lst (SqL.of e9) (dp3 (f := fun i => (t - q i) % m))) ?_
      refine ⟨_, rfl, iteF ?_⟩
      exact ⟨t, q, _, _, _, _, _, _, _, _, _, _, _, rfl, A8.same s9⟩
    · rintro σ H' ⟨t, q, v7, v10, v11, v12, v13, v14, v15, v16, v17, v18, v19, rfl, A⟩
      exact kk _
end
end K61
/-! The head's facts. -/
namespace K61
open PySem PySem.Spec PyProof.Rows L2
/-! ### where a def stands, what is seen of it -/
inductive Wh where
  | glo (x : Str)
  | meth (C m : Str)
  | get (C m : Str)
def prG (K : PySem.W.Frag) (C m : Str) : Addr := match PySem.W.recIn K (He.ma K (He.ga K C) m) "property" with
  | some (.ref g :: _) => g
  | _ => 0
def Wh.ad (K : PySem.W.Frag) : Wh → Addr
  | .glo x => He.ga K x
  | .meth C m => He.ma K (He.ga K C) m
  | .get C m => prG K C m
structure DX where
  at_ : Wh
  name : Str
  qual : Str
  st : Stmt
  kwd : List (Str × V) := []
def DX.obs (K : PySem.W.Frag) (d : DX) : He.FnW := match K.lookup (d.at_.ad K) with
  | some ⟨_, _, .func fn, _⟩ => some (fn.name, fn.qualname, fn.params, fn.body, fn.scope, fn.globals, fn.closure, fn.builtins)
  | _ => none
def DX.val (d : DX) : He.FnW := some (d.name, d.qual, defArgs d.st, .stmts (defBody d.st), defScope d.st, mainGlobals, [], builtinsNs)
def DX.ok (K : PySem.W.Frag) (d : DX) : Bool := PySem.W.keepIn K (.ref (d.at_.ad K)) && (match K.lookup (d.at_.ad K) with
  | some ⟨_, _, .func fd, _⟩ => PySem.W.codeIn K fd.code d.qual && (He.dflB K fd.defaults [] && He.kwdB K fd.kwdefaults d.kwd)
  | _ => false)
theorem DX.funD {K : PySem.W.Frag} {d : DX} (seen : d.obs K = d.val) (c : d.ok K = true) : ∃ fd, FunD K d.name d.qual (defArgs d.st) (defBody d.st) (defScope d.st) [] d.kwd (d.at_.ad K) fd := by
  obtain ⟨keepF, okF⟩ := He.ba c
  unfold DX.obs at seen
  cases lk : K.lookup (d.at_.ad K) with
  | none => rw [lk] at okF; cases okF
  | some ob0 =>
    obtain ⟨ocl, odi, dat, slo⟩ := ob0
    rw [lk] at okF seen
    cases dat with
    | func fd =>
      obtain ⟨e1, e2, e3, e4, e5, e6, e7, e8, e9, e10, e11, e12, e13, e14, e15⟩ := fd
      have seenF : (some (e1, e2, e3, e4, e5, e6, e7, e15) : He.FnW) = some (d.name, d.qual, defArgs d.st, .stmts (defBody d.st), defScope d.st, mainGlobals, [], builtinsNs) := seen
      simp only [Option.some.injEq, Prod.mk.injEq] at seenF
      obtain ⟨a1, a2, a3, a4, a5, a6, a7, a8⟩ := seenF
      subst a1 a2 a3 a4 a5 a6 a7 a8
      obtain ⟨b1, b2⟩ := He.ba (show (PySem.W.codeIn K e13 d.qual && (He.dflB K e8 [] && He.kwdB K e9 d.kwd)) = true from okF)
      obtain ⟨b3, b4⟩ := He.ba b2
      exact ⟨_, ⟨ocl, odi, e8, e9, e10, e11, e12, e13, e14, slo, rfl, lk, b1, He.dflB_ok b3, He.kwdB_ok b4⟩, keepF⟩
    | _ => cases okF
/-- a def of no defaults -/
theorem fun_of {K : PySem.W.Frag} {x qual : Str} {st : Stmt} {kws : List (Str × V)} {f : Addr} {fd : FuncData} (F : FunD K x qual (defArgs st) (defBody st) (defScope st) [] kws f fd) : Fun K x qual st f fd := by
  obtain ⟨⟨oc, od, dV, kV, doc, pm, an, cdv, ct, osl, e, lk, hcd, hD, _⟩, kp⟩ := F
  rcases hD with ⟨_, rfl⟩ | ⟨z, _⟩
  · exact ⟨⟨oc, od, kV, doc, pm, an, cdv, ct, osl, e, lk, hcd⟩, kp⟩
  · exact absurd rfl z
/-! ### further facts -/
def propB (C m : Str) (K : PySem.W.Frag) : Bool := He.eqO (PySem.W.findIn K (.ref (He.ga K C)) m) (some (some (.ref (He.ma K (He.ga K C) m)))) &&
  (He.eqO (PySem.W.specialIn K (.ref (He.ma K (He.ga K C) m)) "__get__") (some (some (.builtin "property.__get__"))) && (decide (PySem.W.takesIn K (.ref (He.ma K (He.ga K C) m)) = some true) &&
  (match PySem.W.recIn K (He.ma K (He.ga K C) m) "property" with
    | some (.ref _ :: _) => true
    | _ => false)))
theorem propB_ok {K : PySem.W.Frag} {C m : Str} (h : propB C m K = true) : PropOf K (He.ga K C) m (He.ma K (He.ga K C) m) (prG K C m) := by
  obtain ⟨h1, h⟩ := He.ba h
  obtain ⟨h2, h⟩ := He.ba h
  obtain ⟨h3, h4⟩ := He.ba h
  refine ⟨He.eqO_ok h1, He.eqO_ok h2, of_decide_eq_true h3, ?_⟩
  unfold prG
  cases q : PySem.W.recIn K (He.ma K (He.ga K C) m) "property" with
  | none => rw [q] at h4; cases h4
  | some l =>
    rw [q] at h4
    cases l with
    | nil => cases h4
    | cons v r =>
      cases v with
      | ref g => exact ⟨r, rfl⟩
      | _ => cases h4
def fnB (C m : Str) (K : PySem.W.Frag) : Bool := PySem.W.fnIn K (He.ma K (He.ga K C) m)
def selfB (C : Str) (K : PySem.W.Frag) : Bool := PySem.W.selfFirst K (He.ga K C)
def clsB (K : PySem.W.Frag) : Bool := He.eqO (PySem.W.findIn K (.ref (He.ga K "Form")) "__class__") (some (some (.builtin "object.__class__"))) &&
  (He.eqO (PySem.W.specialIn K (.builtin "object.__class__") "__get__") (some (some (.builtin "getset_descriptor.__get__"))) && (decide (PySem.W.takesIn K (.builtin "object.__class__") = some true) &&
  (decide (PySem.W.mroIn K (He.ga K "Form") (.type "object") = some true) && (decide (PySem.W.kitOne K (.ref (He.ga K "Form")) (.type "int") = some false) && decide (PySem.W.kitOne K (.ref (He.ga K "Form")) (.ref (He.ga K "Form")) = some true)))))
/-! ### the lists -/
def fa : List He.Fa := [.free "isinstance", .free "int", .free "bool", .free "str", .free "tuple", .free "len", .free "max", .free "range", .free "list", .glo "Log", .glo "Reader", .glo "Form", .glo "Scheme", .int "LARGEST" (10 ^ 30), .int "FARTHEST" (10 ^ 40), .int "WIDEST" 100,
  .cls "Log", .cls "Reader", .cls "Form", .cls "Scheme", .noat "Log" "modulus", .noat "Log" "size", .noat "Log" "laid", .noat "Reader" "source", .noat "Reader" "passed", .noat "Form" "slope", .noat "Form" "base", .noat "Scheme" "own_wrap", .noat "Scheme" "own_slot", .noat "Scheme" "own_empty", .noat "Scheme" "own_full", .noat "Scheme" "own_when",
  .meth "Log" "__iadd__", .meth "Log" "__getitem__", .meth "Reader" "__call__", .meth "Reader" "rest", .mkr "Log", .mkr "Reader", .mkr "Form", .mkr "Scheme"]
/-- the defs by their global names -/
def gl : List (Str × Stmt) := [("is_whole", tWhole), ("is_between", tBetween), ("is_size", tSize), ("modulus_at", tModAt), ("modulus_of", tModOf), ("has_outside", tHasOut), ("log_modulus", tLogMod), ("is_word", tWord), ("is_part_form", tPartForm), ("is_wrap", tIsWrap), ("is_slot", tIsSlot), ("is_full_rule", tFullRule),
  ("_law_mixed", tMixed), ("_law_pool", tPool), ("_law_draw", tDraw), ("_law_wide", tWide), ("_law_made", tMade), ("_law_setting", tSetting), ("_law_power", tPower), ("_law_due", tDue), ("_law_walk", tWalk), ("_law_rows", tRows), ("_law_amount", tAmount), ("law", tLaw)]
def faG : List He.Fa := gl.map fun q => .glo q.1
def dx : List DX := (gl.map fun q => ⟨.glo q.1, q.1, q.1, q.2, []⟩) ++ [⟨.meth "Log" "__init__", "__init__", "Log.__init__", tLogInit, []⟩, ⟨.meth "Log" "__iadd__", "__iadd__", "Log.__iadd__", tLogIadd, []⟩, ⟨.meth "Log" "__getitem__", "__getitem__", "Log.__getitem__", tLogGet, []⟩, ⟨.get "Log" "put_count", "put_count", "Log.put_count", tLogPut, []⟩,
  ⟨.meth "Reader" "__init__", "__init__", "Reader.__init__", tRdInit, [("back", .int 0)]⟩, ⟨.get "Reader" "lag", "lag", "Reader.lag", tRdLag, []⟩, ⟨.get "Reader" "believed", "believed", "Reader.believed", tRdBel, []⟩, ⟨.meth "Reader" "__call__", "__call__", "Reader.__call__", tRdCall, []⟩, ⟨.meth "Reader" "rest", "rest", "Reader.rest", tRdRest, []⟩,
  ⟨.meth "Form" "__init__", "__init__", "Form.__init__", tFmInit, []⟩, ⟨.meth "Scheme" "__init__", "__init__", "Scheme.__init__", tScInit, [("when", .str "refuse")]⟩, ⟨.get "Scheme" "wrap", "wrap", "Scheme.wrap", tScWrap, []⟩, ⟨.get "Scheme" "slot", "slot", "Scheme.slot", tScSlot, []⟩, ⟨.get "Scheme" "when", "when", "Scheme.when", tScWhen, []⟩]
def bx : List (PySem.W.Frag → Bool) := [propB "Log" "put_count", propB "Reader" "lag", propB "Reader" "believed", propB "Scheme" "wrap", propB "Scheme" "slot", propB "Scheme" "when", fnB "Log" "__iadd__", fnB "Log" "__getitem__", fnB "Reader" "__call__", selfB "Log", clsB]
/-! ### a part of the heap: what the facts speak of -/
def clN : List Str := ["Log", "Reader", "Form", "Scheme"]
def meN : List (Str × Str) := [("Log", "__init__"), ("Log", "__iadd__"), ("Log", "__getitem__"), ("Log", "put_count"), ("Reader", "__init__"), ("Reader", "lag"), ("Reader", "believed"), ("Reader", "__call__"), ("Reader", "rest"), ("Form", "__init__"), ("Scheme", "__init__"), ("Scheme", "wrap"), ("Scheme", "slot"), ("Scheme", "when")]
def nsO (g : Addr → Option Obj) (a : Addr) : List Addr := match g a with
  | some ⟨_, _, .cls cd, _⟩ => [cd.ns]
  | _ => []
def fnO (g : Addr → Option Obj) (a : Addr) : List Addr := match g a with
  | some ⟨_, _, .func fd, _⟩ => He.refV fd.code ++ He.refV fd.kwdefaults
  | _ => []
def as1 (g : Addr → Option Obj) : List Addr := gl.map fun q => He.ga (He.frG g [mainGlobals]) q.1
def as2 (g : Addr → Option Obj) : List Addr := clN.map fun x => He.ga (He.frG g [mainGlobals]) x
def as3 (g : Addr → Option Obj) (cs : List Addr) : List Addr := mainGlobals :: (cs ++ cs.flatMap (nsO g))
def as4 (K : PySem.W.Frag) : List Addr := meN.map fun q => He.ma K (He.ga K q.1) q.2
def as5 (K : PySem.W.Frag) : List Addr := meN.map fun q => prG K q.1 q.2
def as6 (g : Addr → Option Obj) (l : List Addr) : List Addr := l ++ l.flatMap (fnO g)
def asX (g : Addr → Option Obj) : List Addr := as6 g (as3 g (as2 g) ++ (as1 g ++ (as4 (He.frG g (as3 g (as2 g))) ++ as5 (He.frG g (as3 g (as2 g) ++ as4 (He.frG g (as3 g (as2 g))))))))
/-! ### the Hook -/
abbrev AlX : Type := Bool × List He.FnW
def obsX (K : PySem.W.Frag) : AlX := (((fa ++ faG).all fun f => f.ok K) && ((dx.all fun d => d.ok K) && bx.all fun b => b K), dx.map fun d => d.obs K)
def valX : AlX := (true, dx.map DX.val)
def obsXG (g : Addr → Option Obj) : AlX := obsX (He.frG g (asX g))
def hookX : PySem.W.Hook where
  α := AlX
  obs := fun s => obsXG s.heap.get?
  val := fun _ => valX
  says := fun _ h => ∃ K : PySem.W.Frag, K.In h ∧ obsX K = valX
  of := fun _ _ e => ⟨_, He.frG_in, e⟩
  keeps := fun _ _ _ ⟨K, kin, c⟩ kp => ⟨K, PySem.W.Frag.In.keeps kin kp, c⟩
theorem obsXG_eq {g : Addr → Option Obj} {s : Shared} (h : ∀ a, g a = s.heap.get? a) : obsXG g = hookX.obs s := by
  have hg : g = s.heap.get? := funext h
  rw [hg] <;> rfl
section
variable {K : PySem.W.Frag}
theorem sFa (c : obsX K = valX) (i : Nat) {f : He.Fa} (h : fa[i]? = some f := by rfl) : f.ok K = true := by
  have c1 := (He.ba (show (((fa ++ faG).all fun f => f.ok K) && ((dx.all fun d => d.ok K) && bx.all fun b => b K)) = true from congrArg (fun z : AlX => z.1) c)).1
  exact List.all_eq_true.mp c1 f (List.mem_append_left _ (List.mem_of_getElem? h))
theorem sGl (c : obsX K = valX) (i : Nat) {q : Str × Stmt} (h : gl[i]? = some q := by rfl) : (He.Fa.glo q.1).ok K = true := by
  have c1 := (He.ba (show (((fa ++ faG).all fun f => f.ok K) && ((dx.all fun d => d.ok K) && bx.all fun b => b K)) = true from congrArg (fun z : AlX => z.1) c)).1
  exact List.all_eq_true.mp c1 _ (List.mem_append_right _ (List.mem_map.mpr ⟨q, List.mem_of_getElem? h, rfl⟩))
theorem sB (c : obsX K = valX) (i : Nat) {b : PySem.W.Frag → Bool} (h : bx[i]? = some b := by rfl) : b K = true := by
  have c1 := (He.ba (He.ba (show (((fa ++ faG).all fun f => f.ok K) && ((dx.all fun d => d.ok K) && bx.all fun b => b K)) = true from congrArg (fun z : AlX => z.1) c)).2).2
  exact List.all_eq_true.mp c1 b (List.mem_of_getElem? h)
theorem sD (c : obsX K = valX) (i : Nat) {d : DX} (h : dx[i]? = some d := by rfl) : ∃ fd, FunD K d.name d.qual (defArgs d.st) (defBody d.st) (defScope d.st) [] d.kwd (d.at_.ad K) fd := by
  have c1 := (He.ba (He.ba (show (((fa ++ faG).all fun f => f.ok K) && ((dx.all fun d => d.ok K) && bx.all fun b => b K)) = true from congrArg (fun z : AlX => z.1) c)).2).1
  have e : dx.map (fun d => d.obs K) = dx.map DX.val := congrArg (fun z : AlX => z.2) c
  have e2 : (dx.map fun d => d.obs K)[i]? = (dx.map DX.val)[i]? := by rw [e]
  rw [List.getElem?_map, List.getElem?_map, h] at e2
  exact DX.funD (Option.some.inj e2) (List.all_eq_true.mp c1 d (List.mem_of_getElem? h))
end
end K61
/-! All facts together. -/
namespace K61
open PySem PySem.Spec PyProof.Rows L2
section
variable {P : Program} {w : World} {K : PySem.W.Frag} {mg : Str → Option Value} {base : Heap} {h : Heap} {f C q : Addr} {fd : FuncData} {x m qual : Str} {st : Stmt} {ps : List Str} {sp : Sp} {k : Nat}
theorem def1 (F : FunD K x qual (defArgs st) (defBody st) (defScope st) [] [] f fd) (g : mg x = some (.ref f)) (ok : FnOk P w K mg base CX0 k f fd ps sp)
    (hb : ∀ (kV doc pm : Value) (an : Option Addr) (cdv ct : Value) (us : List Value), us.length = ps.length → bindArgs (PySem.W.fnOf x qual (defArgs st) (defBody st) (defScope st) .none kV doc pm an cdv ct) ⟨us, []⟩ = pure (ps.zip us)) : Def1 P w K mg base k x ps sp :=
  ⟨f, fd, ok, g, F.kp, F.bindsN hb⟩
theorem mth1 (F : FunD K m qual (defArgs st) (defBody st) (defScope st) [] [] f fd) (M : Meth K C m f) (fi : PySem.W.fnIn K f = true) (ok : FnOk P w K mg base CX0 k f fd ps sp)
    (hb : ∀ (kV doc pm : Value) (an : Option Addr) (cdv ct : Value) (us : List Value), us.length = ps.length → bindArgs (PySem.W.fnOf m qual (defArgs st) (defBody st) (defScope st) .none kV doc pm an cdv ct) ⟨us, []⟩ = pure (ps.zip us)) : Mth1 P w K mg base k C m ps sp :=
  ⟨f, fd, ok, M, F.bindsN hb, fi⟩
theorem prp1 (F : FunD K m qual (defArgs st) (defBody st) (defScope st) [] [] f fd) (M : PropOf K C m q f) (ok : FnOk P w K mg base CX0 k f fd ["self"] sp)
    (hb : ∀ (kV doc pm : Value) (an : Option Addr) (cdv ct : Value) (us : List Value), us.length = (["self"] : List Str).length → bindArgs (PySem.W.fnOf m qual (defArgs st) (defBody st) (defScope st) .none kV doc pm an cdv ct) ⟨us, []⟩ = pure ((["self"] : List Str).zip us)) : Prp1 P w K mg base k C m sp :=
  ⟨q, f, fd, ok, M, F.bindsN hb⟩
theorem mak1 (F : FunD K x qual (defArgs st) (defBody st) (defScope st) [] [] f fd) (M : Mk K C f) (ok : FnOk P w K mg base CX0 k f fd ps sp)
    (hb : ∀ (kV doc pm : Value) (an : Option Addr) (cdv ct : Value) (us : List Value), us.length = ps.length → bindArgs (PySem.W.fnOf x qual (defArgs st) (defBody st) (defScope st) .none kV doc pm an cdv ct) ⟨us, []⟩ = pure (ps.zip us)) : Mak1 P w K mg base k C ps sp :=
  ⟨f, fd, ok, M, F.bindsN hb⟩
theorem makK {kws : List (Str × V)} (F : FunD K x qual (defArgs st) (defBody st) (defScope st) [] kws f fd) (M : Mk K C f) (n : Nat) (ks : List Str) (hk : kws ≠ []) (ok : FnOk P w K mg base CX0 k f fd ps sp)
    (hb : ∀ (D : Addr) (doc pm : Value) (an : Option Addr) (cdv ct : Value) (us ws : List Value), us.length = n → ws.length = ks.length → bindArgs (PySem.W.fnOf x qual (defArgs st) (defBody st) (defScope st) .none (.ref D) doc pm an cdv ct) ⟨us, ks.zip ws⟩ = pure (ps.zip (us ++ ws))) : MakK P w K mg base k C ps n ks sp := by
  obtain ⟨mv, B⟩ := F.kbinds0 n ks [] (fun us _ ws => us ++ ws) hk (fun q hq => by cases hq) (fun a _ b => a.append b) (ps := ps) fun D doc pm an cdv ct us mv ws h1 h2 h3 => hb D doc pm an cdv ct us ws h1 h3
  exact ⟨f, fd, ok, M, B⟩
theorem txt_of (X : K.In h) (G : h.Ns mainGlobals mg) (c : obsX K = valX) : Txt K mg (He.ga K "Log") (He.ga K "Reader") (He.ga K "Form") (He.ga K "Scheme") := by
  obtain ⟨c1, r⟩ := He.ba (show clsB K = true from sB c 10)
  obtain ⟨c2, r⟩ := He.ba r
  obtain ⟨c3, r⟩ := He.ba r
  obtain ⟨c4, r⟩ := He.ba r
  obtain ⟨c5, c6⟩ := He.ba r
  exact {
    isi := He.free_ok X G (sFa c 0)
    int := He.free_ok X G (sFa c 1)
    bool := He.free_ok X G (sFa c 2)
    str := He.free_ok X G (sFa c 3)
    tuple := He.free_ok X G (sFa c 4)
    len := He.free_ok X G (sFa c 5)
    max := He.free_ok X G (sFa c 6)
    range := He.free_ok X G (sFa c 7)
    list := He.free_ok X G (sFa c 8)
    gL := He.glo_ok X G (sFa c 9)
    gR := He.glo_ok X G (sFa c 10)
    gF := He.glo_ok X G (sFa c 11)
    gS := He.glo_ok X G (sFa c 12)
    largest := He.int_ok X G (sFa c 13)
    farthest := He.int_ok X G (sFa c 14)
    widest := He.int_ok X G (sFa c 15)
    cL := He.cls_ok (sFa c 16)
    cR := He.cls_ok (sFa c 17)
    cF := He.cls_ok (sFa c 18)
    cS := He.cls_ok (sFa c 19)
    lM := He.noat_ok (sFa c 20)
    lS := He.noat_ok (sFa c 21)
    lL := He.noat_ok (sFa c 22)
    rS := He.noat_ok (sFa c 23)
    rP := He.noat_ok (sFa c 24)
    fS := He.noat_ok (sFa c 25)
    fB := He.noat_ok (sFa c 26)
    sW := He.noat_ok (sFa c 27)
    sS := He.noat_ok (sFa c 28)
    sE := He.noat_ok (sFa c 29)
    sF := He.noat_ok (sFa c 30)
    sH := He.noat_ok (sFa c 31)
    fc := He.eqO_ok c1
    fg := He.eqO_ok c2
    ft := of_decide_eq_true c3
    fm := of_decide_eq_true c4
    fi := of_decide_eq_true c5
    ff := of_decide_eq_true c6
    selfL := sB c 9 }
theorem uses_of (X : K.In h) (G : h.Ns mainGlobals mg) (c : obsX K = valX) : Uses P w K mg base (He.ga K "Log") (He.ga K "Reader") (He.ga K "Form") (He.ga K "Scheme") := by
  have T := txt_of X G c
  obtain ⟨fd_is_whole, F_is_whole⟩ := sD c 0
  have h_is_whole := def1 (P := P) (w := w) (mg := mg) (base := base) F_is_whole (He.glo_ok X G (sGl c 0)) (ok_whole (fun_of F_is_whole) T) (fun _ _ _ _ _ _ us hl => match us, hl with | [_], _ => rfl)
  obtain ⟨fd_is_between, F_is_between⟩ := sD c 1
  have h_is_between := def1 (P := P) (w := w) (mg := mg) (base := base) F_is_between (He.glo_ok X G (sGl c 1)) (ok_between (fun_of F_is_between) h_is_whole) (fun _ _ _ _ _ _ us hl => match us, hl with | [_, _, _], _ => rfl)
  obtain ⟨fd_is_size, F_is_size⟩ := sD c 2
  have h_is_size := def1 (P := P) (w := w) (mg := mg) (base := base) F_is_size (He.glo_ok X G (sGl c 2)) (ok_size (fun_of F_is_size) T h_is_between) (fun _ _ _ _ _ _ us hl => match us, hl with | [_], _ => rfl)
  obtain ⟨fd_modulus_at, F_modulus_at⟩ := sD c 3
  have h_modulus_at := def1 (P := P) (w := w) (mg := mg) (base := base) F_modulus_at (He.glo_ok X G (sGl c 3)) (ok_modat (fun_of F_modulus_at) T h_is_whole) (fun _ _ _ _ _ _ us hl => match us, hl with | [_, _], _ => rfl)
  obtain ⟨fd_has_outside, F_has_outside⟩ := sD c 5
  have h_has_outside := def1 (P := P) (w := w) (mg := mg) (base := base) F_has_outside (He.glo_ok X G (sGl c 5)) (ok_hasout (fun_of F_has_outside) ) (fun _ _ _ _ _ _ us hl => match us, hl with | [_, _, _], _ => rfl)
  obtain ⟨fd_wrap, F_wrap⟩ := sD c 35
  have h_p_wrap := prp1 (P := P) (w := w) (mg := mg) (base := base) F_wrap (propB_ok (sB c 3)) (ok_scwrap (fun_of F_wrap) T) (fun _ _ _ _ _ _ us hl => match us, hl with | [_], _ => rfl)
  obtain ⟨fd_slot, F_slot⟩ := sD c 36
  have h_p_slot := prp1 (P := P) (w := w) (mg := mg) (base := base) F_slot (propB_ok (sB c 4)) (ok_scslot (fun_of F_slot) T) (fun _ _ _ _ _ _ us hl => match us, hl with | [_], _ => rfl)
  obtain ⟨fd_when, F_when⟩ := sD c 37
  have h_p_when := prp1 (P := P) (w := w) (mg := mg) (base := base) F_when (propB_ok (sB c 5)) (ok_scwhen (fun_of F_when) T) (fun _ _ _ _ _ _ us hl => match us, hl with | [_], _ => rfl)
  obtain ⟨fd_put_count, F_put_count⟩ := sD c 27
  have h_p_put_count := prp1 (P := P) (w := w) (mg := mg) (base := base) F_put_count (propB_ok (sB c 0)) (ok_logput (fun_of F_put_count) T) (fun _ _ _ _ _ _ us hl => match us, hl with | [_], _ => rfl)
  obtain ⟨fd_modulus_of, F_modulus_of⟩ := sD c 4
  have h_modulus_of := def1 (P := P) (w := w) (mg := mg) (base := base) F_modulus_of (He.glo_ok X G (sGl c 4)) (ok_modof (fun_of F_modulus_of) T h_is_size h_modulus_at h_p_wrap) (fun _ _ _ _ _ _ us hl => match us, hl with | [_, _], _ => rfl)
  obtain ⟨fd_log_modulus, F_log_modulus⟩ := sD c 6
  have h_log_modulus := def1 (P := P) (w := w) (mg := mg) (base := base) F_log_modulus (He.glo_ok X G (sGl c 6)) (ok_logmod (fun_of F_log_modulus) T h_modulus_of h_has_outside h_p_when h_p_slot) (fun _ _ _ _ _ _ us hl => match us, hl with | [_, _], _ => rfl)
  obtain ⟨fd_iLog, F_iLog⟩ := sD c 24
  have h_i_Log := mak1 (P := P) (w := w) (mg := mg) (base := base) F_iLog (He.mkr_ok (sFa c 36)) (ok_loginit (fun_of F_iLog) T h_log_modulus) (fun _ _ _ _ _ _ us hl => match us, hl with | [_, _, _], _ => rfl)
  obtain ⟨fd_iadd, F_iadd⟩ := sD c 25
  have h_m___iadd__ := mth1 (P := P) (w := w) (mg := mg) (base := base) F_iadd (He.meth_ok (sFa c 32)) (sB c 6) (ok_logiadd (fun_of F_iadd) T h_is_between) (fun _ _ _ _ _ _ us hl => match us, hl with | [_, _], _ => rfl)
  obtain ⟨fd_getitem, F_getitem⟩ := sD c 26
  have h_m___getitem__ := mth1 (P := P) (w := w) (mg := mg) (base := base) F_getitem (He.meth_ok (sFa c 33)) (sB c 7) (ok_logget (fun_of F_getitem) T h_is_between) (fun _ _ _ _ _ _ us hl => match us, hl with | [_, _], _ => rfl)
  obtain ⟨fd_lag, F_lag⟩ := sD c 29
  have h_p_lag := prp1 (P := P) (w := w) (mg := mg) (base := base) F_lag (propB_ok (sB c 1)) (ok_rdlag (fun_of F_lag) T h_p_put_count) (fun _ _ _ _ _ _ us hl => match us, hl with | [_], _ => rfl)
  obtain ⟨fd_believed, F_believed⟩ := sD c 30
  have h_p_believed := prp1 (P := P) (w := w) (mg := mg) (base := base) F_believed (propB_ok (sB c 2)) (ok_rdbel (fun_of F_believed) T h_p_put_count) (fun _ _ _ _ _ _ us hl => match us, hl with | [_], _ => rfl)
  obtain ⟨fd_call, F_call⟩ := sD c 31
  have h_m___call__ := mth1 (P := P) (w := w) (mg := mg) (base := base) F_call (He.meth_ok (sFa c 34)) (sB c 8) (ok_rdcall (fun_of F_call) T h_p_believed h_m___getitem__) (fun _ _ _ _ _ _ us hl => match us, hl with | [_], _ => rfl)
  obtain ⟨fd_iForm, F_iForm⟩ := sD c 33
  have h_i_Form := mak1 (P := P) (w := w) (mg := mg) (base := base) F_iForm (He.mkr_ok (sFa c 38)) (ok_fminit (fun_of F_iForm) T h_is_whole) (fun _ _ _ _ _ _ us hl => match us, hl with | [_, _, _], _ => rfl)
  obtain ⟨fd_is_word, F_is_word⟩ := sD c 7
  have h_is_word := def1 (P := P) (w := w) (mg := mg) (base := base) F_is_word (He.glo_ok X G (sGl c 7)) (ok_word (fun_of F_is_word) T) (fun _ _ _ _ _ _ us hl => match us, hl with | [_, _], _ => rfl)
  obtain ⟨fd_is_part_form, F_is_part_form⟩ := sD c 8
  have h_is_part_form := def1 (P := P) (w := w) (mg := mg) (base := base) F_is_part_form (He.glo_ok X G (sGl c 8)) (ok_part (fun_of F_is_part_form) T) (fun _ _ _ _ _ _ us hl => match us, hl with | [_], _ => rfl)
  obtain ⟨fd_is_wrap, F_is_wrap⟩ := sD c 9
  have h_is_wrap := def1 (P := P) (w := w) (mg := mg) (base := base) F_is_wrap (He.glo_ok X G (sGl c 9)) (ok_iswrap (fun_of F_is_wrap) T h_is_between h_is_part_form) (fun _ _ _ _ _ _ us hl => match us, hl with | [_], _ => rfl)
  obtain ⟨fd_is_slot, F_is_slot⟩ := sD c 10
  have h_is_slot := def1 (P := P) (w := w) (mg := mg) (base := base) F_is_slot (He.glo_ok X G (sGl c 10)) (ok_isslot (fun_of F_is_slot) h_is_word h_is_whole) (fun _ _ _ _ _ _ us hl => match us, hl with | [_, _], _ => rfl)
  obtain ⟨fd_is_full_rule, F_is_full_rule⟩ := sD c 11
  have h_is_full_rule := def1 (P := P) (w := w) (mg := mg) (base := base) F_is_full_rule (He.glo_ok X G (sGl c 11)) (ok_full (fun_of F_is_full_rule) T h_is_word h_is_part_form) (fun _ _ _ _ _ _ us hl => match us, hl with | [_], _ => rfl)
  obtain ⟨fd_law_mixed, F_law_mixed⟩ := sD c 12
  have h__law_mixed := def1 (P := P) (w := w) (mg := mg) (base := base) F_law_mixed (He.glo_ok X G (sGl c 12)) (ok_mixed (fun_of F_law_mixed) T) (fun _ _ _ _ _ _ us hl => match us, hl with | [_, _, _], _ => rfl)
  obtain ⟨fd_law_pool, F_law_pool⟩ := sD c 13
  have h__law_pool := def1 (P := P) (w := w) (mg := mg) (base := base) F_law_pool (He.glo_ok X G (sGl c 13)) (ok_pool (fun_of F_law_pool) T) (fun _ _ _ _ _ _ us hl => match us, hl with | [_], _ => rfl)
  obtain ⟨fd_law_draw, F_law_draw⟩ := sD c 14
  have h__law_draw := def1 (P := P) (w := w) (mg := mg) (base := base) F_law_draw (He.glo_ok X G (sGl c 14)) (ok_draw (fun_of F_law_draw) T h__law_mixed) (fun _ _ _ _ _ _ us hl => match us, hl with | [_, _], _ => rfl)
  obtain ⟨fd_law_wide, F_law_wide⟩ := sD c 15
  have h__law_wide := def1 (P := P) (w := w) (mg := mg) (base := base) F_law_wide (He.glo_ok X G (sGl c 15)) (ok_wide (fun_of F_law_wide) T h__law_draw) (fun _ _ _ _ _ _ us hl => match us, hl with | [_, _], _ => rfl)
  obtain ⟨fd_law_power, F_law_power⟩ := sD c 18
  have h__law_power := def1 (P := P) (w := w) (mg := mg) (base := base) F_law_power (He.glo_ok X G (sGl c 18)) (ok_power (fun_of F_law_power) T) (fun _ _ _ _ _ _ us hl => match us, hl with | [_], _ => rfl)
  obtain ⟨fd_law_due, F_law_due⟩ := sD c 19
  have h__law_due := def1 (P := P) (w := w) (mg := mg) (base := base) F_law_due (He.glo_ok X G (sGl c 19)) (ok_due (fun_of F_law_due) T) (fun _ _ _ _ _ _ us hl => match us, hl with | [_, _, _, _], _ => rfl)
  obtain ⟨fd_law_walk, F_law_walk⟩ := sD c 20
  have h__law_walk := def1 (P := P) (w := w) (mg := mg) (base := base) F_law_walk (He.glo_ok X G (sGl c 20)) (ok_walk (fun_of F_law_walk) T h__law_due) (fun _ _ _ _ _ _ us hl => match us, hl with | [_, _, _, _, _], _ => rfl)
  obtain ⟨fd_law_amount, F_law_amount⟩ := sD c 22
  have h__law_amount := def1 (P := P) (w := w) (mg := mg) (base := base) F_law_amount (He.glo_ok X G (sGl c 22)) (ok_amount (fun_of F_law_amount) h__law_draw h__law_wide) (fun _ _ _ _ _ _ us hl => match us, hl with | [_, _, _], _ => rfl)
  obtain ⟨fd_law_setting, F_law_setting⟩ := sD c 17
  have h__law_setting := def1 (P := P) (w := w) (mg := mg) (base := base) F_law_setting (He.glo_ok X G (sGl c 17)) (ok_setting (fun_of F_law_setting) T h__law_draw h__law_wide h__law_power) (fun _ _ _ _ _ _ us hl => match us, hl with | [_], _ => rfl)
  obtain ⟨fd_iReader, F_iReader⟩ := sD c 28
  have h_k_Reader := makK (P := P) (w := w) (mg := mg) (base := base) F_iReader (He.mkr_ok (sFa c 37)) 2 ["back"] (by intro z; cases z) (ok_rdinit F_iReader T h_is_between h_p_put_count) (fun _ _ _ _ _ _ us ws h1 h2 => match us, ws, h1, h2 with | [_, _], [_], _, _ => rfl)
  obtain ⟨fd_iScheme, F_iScheme⟩ := sD c 34
  have h_k_Scheme := makK (P := P) (w := w) (mg := mg) (base := base) F_iScheme (He.mkr_ok (sFa c 39)) 1 ["wrap", "slot", "empty", "full", "when"] (by intro z; cases z) (ok_scinit F_iScheme T h_is_wrap h_is_slot h_is_word h_is_full_rule) (fun _ _ _ _ _ _ us ws h1 h2 => match us, ws, h1, h2 with | [_], [_, _, _, _, _], _, _ => rfl)
  obtain ⟨fd_made, F_made⟩ := sD c 16
  have h__law_made := def1 (P := P) (w := w) (mg := mg) (base := base) F_made (He.glo_ok X G (sGl c 16)) (ok_made (fun_of F_made) T h_i_Form h_k_Scheme) (fun _ _ _ _ _ _ us hl => match us, hl with | [_, _], _ => rfl)
  obtain ⟨fd_rest, F_rest⟩ := sD c 32
  have M : Rst1 K (He.ga K "Reader") := ⟨_, fd_rest, fun_of F_rest, He.meth_ok (sFa c 35), F_rest.bindsN (fun _ _ _ _ _ _ us hl => match us, hl with | [_, _], _ => rfl)⟩
  obtain ⟨fd_rows, F_rows⟩ := sD c 21
  have h__law_rows := def1 (P := P) (w := w) (mg := mg) (base := base) F_rows (He.glo_ok X G (sGl c 21)) (ok_rows (fun_of F_rows) T h_m___call__ M) (fun _ _ _ _ _ _ us hl => match us, hl with | [_, _, _], _ => rfl)
  exact ⟨T, h__law_pool, h__law_draw, h__law_wide, h__law_made, h__law_setting, h__law_walk, h__law_rows, h__law_amount, h_i_Log, h_m___iadd__, h_k_Reader, h_m___call__, h_p_lag, h_p_believed, h_p_put_count⟩
/-- the law's def, its promise -/
theorem law_facts (X : K.In h) (G : h.Ns mainGlobals mg) (c : obsX K = valX) (hfa : mg ("law" : Str) = some (.ref f)) :
    ∃ fd : FuncData, (∀ (s : Shared) (v : Value), BindsTo s fd ⟨[v], []⟩ [("_law_script", v)]) ∧ ∀ base : Heap, K.In base → base.Ns mainGlobals mg → FnOk P w K mg base CX0 11 f fd ["_law_script"] (spLaw K) := by
  obtain ⟨fd, F⟩ := sD c 23
  have e := hfa.symm.trans (He.glo_ok X G (sGl c 23))
  cases e
  have b := FunD.bindsA (ps := ["_law_script"]) F fun _ _ _ _ _ _ us hl => match us, hl with | [_], _ => rfl
  exact ⟨fd, fun s v => b s [v] rfl, fun base _ _ => ok_law (fun_of F) (uses_of X G c)⟩
end
end K61
/-! The head's run, the claim. -/
namespace K61
open PySem PySem.Spec PyProof.Rows L2
abbrev RR0 : PySem.W.OpenRow := PySem.W.OpenLaw.row PySem.Challenge.rw_ringindexes_k61_whole_several_readers
def nmA : List Str := ["_wall", "RingError", "NoForm", "NoScheme", "NoSize", "NoRing", "Outside", "NotDecided", "NoLag", "DIGITS", "LARGEST", "is_whole", "is_between", "is_size", "digits_in", "signed_in", "modulus_at", "modulus_of", "has_outside", "FARTHEST"]
def nmB : List Str := ["log_modulus", "Log", "Reader", "Form", "operand_of", "sign_of", "show_form", "slope_in", "form_in", "PARTS", "HEADS", "WIDEST", "Scheme", "row_of", "is_word", "is_part_form", "is_wrap", "is_slot", "is_full_rule"]
def nmC : List Str := ["show_full", "show_scheme", "full_in", "scheme_in", "_law_mixed", "_law_pool", "_law_draw", "_law_wide", "_law_made", "_law_setting", "_law_power", "_law_due", "_law_walk", "_law_rows", "_law_amount"]
def namesL : List Str := nmA ++ (nmB ++ nmC)
def ob (s : PySem.W.SharedT) : AlX := obsXG (HandSHeadRun.getT s)
theorem ob_eq (s : PySem.W.SharedT) : ob s = hookX.obs s.abs := obsXG_eq (HandSHeadRun.getT_eq s)
end K61
namespace K61
open PySem PySem.W PySem.Calls PyProof.Rows
theorem run1 (w : World) (os : OsState) : (HandSHeadRun.endF (HandSHeadRun.stepQ (HandSHeadRun.denQ HandSHeadRun.tabQ) RR0.prog w) 20000 RR0.prog w os).map (fun s => HandSHeadRun.looksF RR0.prog (boot_heap w.params) s.abs) = some true := by kernel_rfl
theorem run2 (w : World) (os : OsState) : (HandSHeadRun.endF (HandSHeadRun.stepQ (HandSHeadRun.denQ HandSHeadRun.tabQ) RR0.prog w) 20000 RR0.prog w os).map (fun s => HandSHeadRun.seenQ (PySem.W.view RR0.prog [61]) namesL (importedModules RR0.prog.main.body) (fun s => xlAt (PySem.W.view RR0.prog [61]) [] s && recOk RR0.toRowW.records s) s.abs) = some (openGood (PySem.W.view RR0.prog [61]) namesL) := by kernel_rfl
theorem run3 (w : World) (os : OsState) : (HandSHeadRun.endF (HandSHeadRun.stepQ (HandSHeadRun.denQ HandSHeadRun.tabQ) RR0.prog w) 20000 RR0.prog w os).map ob = some (hookX.val w) := by kernel_rfl
theorem map3 {α β γ δ : Type} {o : Option α} {f : α → β} {g : α → γ} {h : α → δ} {a : β} {b : γ} {c : δ} (h1 : o.map f = some a) (h2 : o.map g = some b) (h3 : o.map h = some c) : o.map (fun s => (f s, g s, h s)) = some (a, b, c) := by
  cases o with
  | none => cases h1
  | some x =>
    cases h1
    cases h2
    cases h3
    rfl
theorem head_run (w : World) : HandSHeadRun.RunEq RR0 (PySem.W.view RR0.prog [61]) hookX ob 20000 namesL w := by
  unfold HandSHeadRun.RunEq
  intro os
  have e1 := run1 w os
  have e2 := run2 w os
  have e3 := run3 w os
  generalize HandSHeadRun.endF (HandSHeadRun.stepQ (HandSHeadRun.denQ HandSHeadRun.tabQ) RR0.prog w) 20000 RR0.prog w os = o at e1 e2 e3 ⊢
  exact map3 e1 e2 e3
end K61
namespace K61
open PySem PySem.W PySem.Calls PyProof.Rows
theorem g1 : opening RR0.prog = plainProg RR0.prog.main.scope.names := by kernel_rfl
theorem g2 (s) : fenceModules? RR0.prog s = some s := by kernel_rfl
theorem g3 : defOf (view RR0.prog [61]) RR0.name = some (HandSHeadRun.topDef RR0.prog 61, []) := by kernel_rfl
theorem g4 : RR0.prog.theDef RR0.name = some ((HandSHeadRun.topDef RR0.prog 61).params, (HandSHeadRun.topDef RR0.prog 61).body, (HandSHeadRun.topDef RR0.prog 61).scope) := by kernel_rfl
theorem g5 : kwWritten? (HandSHeadRun.topDef RR0.prog 61).params.kwonlyargs (HandSHeadRun.topDef RR0.prog 61).params.kw_defaults = some [] := by kernel_rfl
theorem g6 : (!RR0.writes || RR0.records.isEmpty) = true := by rfl
theorem g7 : RR0.wellSaid = true := by decide +kernel
theorem g8 : (chainsOk (view RR0.prog [61]) && opensWell RR0.prog && (frees RR0.toRowW && RR0.within.isEmpty)) = true := by decide +kernel
theorem g9 : RR0.prog.bare := ⟨rfl, rfl, rfl, rfl, rfl, by decide +kernel⟩
theorem g10 : (HandSHeadRun.topDef RR0.prog 61).name = ("law" : PySem.Str) := by kernel_rfl
theorem g11 : (HandSHeadRun.topDef RR0.prog 61).params.defaults = [] := by kernel_rfl
theorem g12 : RR0.toRowW.promised := by w_witness2
theorem law_walk : WalkO (view RR0.prog [61]) namesL (XL (view RR0.prog [61]) []) hookX.says RR0.toRowW (HandSHeadRun.topDef RR0.prog 61) [] (fun f vs => PySem.call f vs) := by
  refine L2.walk_ofE (l := PySem.Challenge.rw_ringindexes_k61_whole_several_readers) (n := 63) (k := 11) (x := "_law_script") (CX := L2.CX0) rfl (by decide) g11 ⟨rfl, by decide, by decide⟩ ?F (fun _ _ _ _ z => z)
  intro w mg fa h Y G hmg0
  obtain ⟨K, KX, c⟩ := Y
  have hmg : mg ("law" : PySem.Str) = some (.ref fa) := by rw [← g10]; exact hmg0
  obtain ⟨fd, hb, hF⟩ := law_facts (P := (PySem.Challenge.rw_ringindexes_k61_whole_several_readers).prog) (w := w) KX G c hmg
  exact ⟨K, fd, spLaw K, KX, hb, fun H a ns hl _ hS => ⟨a, ns, rfl, hS, hl, fun _ => rfl⟩, hF⟩
theorem head_all : RR0.Holds := HandSHeadRun.head_any (r := RR0) (q := view RR0.prog [61]) (H := hookX) (ob := ob) (M := 20000) (loose := namesL) (d := HandSHeadRun.topDef RR0.prog 61) (kwd := []) ob_eq g1 g2 head_run g3 g4 g5 g6 g7 g8 g9 g12 law_walk
end K61
open PySem PySem.W PySem.Calls PyProof.Rows
theorem PySem.Challenge.cw_ringindexes_k61_whole_several_readers_holds : PySem.Challenge.rw_ringindexes_k61_whole_several_readers.Holds := by
  w_on; o_law
  exact K61.head_all
