import PyProof.Rows.All
import Wide.All
import OpenK.AllK
import Wide.FinOn
import HandS.ForMost
import HandS.ForExc
import HandS.Wide
import HandS.EndBits
import HandS.IsInst
import HandS.TupLe
import HandS.TupAny
import HandS.Zip
import HandS.Flow
import HandS.Evl
import HandS.RevRange
import HandS.WideBits
import HandS.TryOnly
import HandS.Style
import HandS.SortInts
import HandS.More
import PyProof.CallFns
import HandS.Defaults
import HandS.MakeKw
import HandS.MakeKwOnly
import HandS.DictTup
import HandS.TupMul
import HandS.ExcIs
import HandS.WordsExc
import HandS.DictEq
import HandS.Rev
import HandS.HotCalls
import PySem.Challenge.RW_fourpoints_k24_windows_refused
set_option Elab.async false
set_option linter.all false
set_option maxRecDepth 100000
set_option maxHeartbeats 4000000
/-! my own base over HandS: defs of the text, heaps that keep, readings taken step by step -/
namespace Fp
open PySem PySem.Spec PyProof.Rows L2
abbrev St := L2.St

/-! ### defs -/
/-- a def of the top that stands at the module's name x -/
structure Def (K : PySem.W.Frag) (mg : Str → Option Value) (x : Str) (st : Stmt) (ps : List Str) : Prop where
  ex : ∃ f fd, Fun K x x st f fd ∧ mg x = some (.ref f) ∧ Binds K fd ps []
/-- .. and its promise -/
structure Fn (P : Program) (w : World) (K : PySem.W.Frag) (mg : Str → Option Value) (base : Heap) (k : Nat) (x : Str) (ps : List Str) (sp : Sp) : Prop where
  ex : ∃ f fd, mg x = some (.ref f) ∧ PySem.W.keepIn K (.ref f) = true ∧ Binds K fd ps [] ∧ FnOk P w K mg base (L2.CX P w) k f fd ps sp

section
variable {P : Program} {w : World} {K : PySem.W.Frag} {mg : Str → Option Value} {base : Heap}
theorem fn_up {k : Nat} {f : Addr} {fd : FuncData} {ps : List Str} {sp : Sp} (F : FnOk P w K mg base CX0 k f fd ps sp) : FnOk P w K mg base (L2.CX P w) k f fd ps sp :=
  ⟨F.len, fun A outer s H args us vs Q E hr he hb hv hs => codeAny_mono (F.run A outer s H args us vs Q E hr he hb hv hs) fun r s' hq => by
    cases r with
    | error e => exact False.elim hq
    | ok fl => cases fl <;> exact hq⟩
/-- a def that lets nothing out -/
theorem Def.ok {x : Str} {st : Stmt} {N ps : List Str} {k : Nat} {sp : Sp} (D : Def K mg x st ps) (S : FnScope N ps (defScope st)) (len : ∀ vs H Q E, sp vs H Q E → vs.length = ps.length)
    (hbody : ∀ (f : Addr) (cdv : Value) (A : Around) (outer : List Env) (s : Shared) (H : Hp) (vs : List V) (Q : VK) (E : XK), Room k (A.deeper (envOfC x (defScope st) s.heap.objs.size f cdv)) → sp vs H Q E →
      ∃ t, PSs (cxOf CX0 P w K mg base N x (defScope st) f cdv A outer s H E).nox (defBody st) t ∧ t { nx := fun _ H' => Q .non H', rt := Q } (start N vs) H) : Fn P w K mg base (k + 1) x ps sp := by
  obtain ⟨f, fd, F, hm, hb⟩ := D.ex
  exact ⟨f, fd, hm, F.kp, hb, fn_up (F.ok S len (hbody f))⟩
/-- a def that may raise -/
theorem Def.okX {x : Str} {st : Stmt} {N ps : List Str} {k : Nat} {sp : Sp} (D : Def K mg x st ps) (S : FnScope N ps (defScope st)) (len : ∀ vs H Q E, sp vs H Q E → vs.length = ps.length)
    (hbody : ∀ (f : Addr) (cdv : Value) (A : Around) (outer : List Env) (s : Shared) (H : Hp) (vs : List V) (Q : VK) (E : XK), Room k (A.deeper (envOfC x (defScope st) s.heap.objs.size f cdv)) → sp vs H Q E →
      ∃ t, PSs (cxOf (L2.CX P w) P w K mg base N x (defScope st) f cdv A outer s H E) (defBody st) t ∧ t { nx := fun _ H' => Q .non H', rt := Q } (start N vs) H) : Fn P w K mg base (k + 1) x ps sp := by
  obtain ⟨f, fd, F, hm, hb⟩ := D.ex
  exact ⟨f, fd, hm, F.kp, hb, F.okX S len (hbody f)⟩
theorem def_mk {x : Str} {st : Stmt} {f : Addr} {fd : FuncData} {ps : List Str} (F : Fun K x x st f fd) (hm : mg x = some (.ref f)) (hb : Binds K fd ps []) : Def K mg x st ps := ⟨f, fd, F, hm, hb⟩
theorem Fn.up {k j : Nat} {x : Str} {ps : List Str} {sp : Sp} (F : Fn P w K mg base k x ps sp) (h : k ≤ j) : Fn P w K mg base j x ps sp := by
  obtain ⟨f, fd, a, b, c, d⟩ := F.ex
  exact ⟨f, fd, a, b, c, d.mono h⟩
theorem Fn.imp {k : Nat} {x : Str} {ps : List Str} {sp sp' : Sp} (F : Fn P w K mg base k x ps sp) (h : ∀ vs H Q E, sp' vs H Q E → sp vs H Q E) : Fn P w K mg base k x ps sp' := by
  obtain ⟨f, fd, a, b, c, d⟩ := F.ex
  exact ⟨f, fd, a, b, c, d.imp h⟩
end

/-! ### a call of such a def, where nothing is let out -/
def tFn (sp : Sp) (E : XK) (t : TA) : TE := fun σ H Q => t σ H fun vs H1 => sp vs H1 Q E
section
variable {X : Cx} {k j : Nat} {ps : List Str} {sp : Sp} {E : XK} {x : Str} {p pos : Pos} {e : Expr} {es : List Expr} {t : TA}
theorem pe_fnE (F : Fn X.prog X.w X.K X.mg X.base k x ps sp) (hr : Room j X.A) (hk : k ≤ j) (hg : Gl X x) (hx : Passes (L2.CX X.prog X.w) X E) (ha : PA X (e :: es) t)
    (hdb : (x == ("__debug__" : Str)) = false := by decide) (he : starEach (e :: es) X.env = (false, eval e X.env) :: starEach es X.env := by rfl) (hpl : (backTo pos (starEach es X.env)).any (·.1) = false := by rfl) :
    PE X (.Call (.Name x p) (e :: es) [] pos) (tFn sp E t) := by
  obtain ⟨f, fd, hm, hkp, hb, G⟩ := F.ex
  have h := pe_call (dvs := []) (p := p) (pos := pos) (G.mono hk) hr hg hm hkp hb .nil hx ha hdb he hpl
  have e1 : tCall sp [] E t = tFn sp E t := by
    funext σ H Q
    show t σ H (fun vs H1 => sp (vs ++ []) H1 Q E) = t σ H (fun vs H1 => sp vs H1 Q E)
    simp only [List.append_nil]
  rw [e1] at h
  exact h
theorem pe_fn0E (F : Fn X.prog X.w X.K X.mg X.base k x ps sp) (hr : Room j X.A) (hk : k ≤ j) (hg : Gl X x) (hx : Passes (L2.CX X.prog X.w) X E)
    (hdb : (x == ("__debug__" : Str)) = false := by decide) :
    PE X (.Call (.Name x p) [] [] pos) (tFn sp E tNil) := by
  obtain ⟨f, fd, hm, hkp, hb, G⟩ := F.ex
  exact pe_call0 (dvs := []) (p := p) (pos := pos) (G.mono hk) hr hg hm hkp hb .nil hx hdb
theorem pe_fn (F : Fn X.prog X.w X.K X.mg X.base k x ps sp) (hr : Room j X.A) (ha : PA X (e :: es) t) (hk : k ≤ j := by decide) (hg : Gl X x := by rfl)
    (hdb : (x == ("__debug__" : Str)) = false := by decide) (he : starEach (e :: es) X.env = (false, eval e X.env) :: starEach es X.env := by rfl) (hpl : (backTo pos (starEach es X.env)).any (·.1) = false := by rfl) :
    PE X (.Call (.Name x p) (e :: es) [] pos) (tFn sp E0 t) := pe_fnE F hr hk hg passL ha hdb he hpl
theorem pe_fn0 (F : Fn X.prog X.w X.K X.mg X.base k x ps sp) (hr : Room j X.A) (hk : k ≤ j := by decide) (hg : Gl X x := by rfl)
    (hdb : (x == ("__debug__" : Str)) = false := by decide) : PE X (.Call (.Name x p) [] [] pos) (tFn sp E0 tNil) := pe_fn0E F hr hk hg passL hdb
/-- f(..) whose exceptions are wished for at the slots (within a try, or out of this def) -/
def tFnS (sp : Sp) (E : St → XK) (t : TA) : TE := fun σ H Q => t σ H fun vs H1 => sp vs H1 Q (E σ)
theorem pe_fnS {E : St → XK} (F : Fn X.prog X.w X.K X.mg X.base k x ps sp) (hr : Room j X.A) (hk : k ≤ j) (hg : Gl X x) (hx : ∀ σ, PassesAt (L2.CX X.prog X.w) X σ (E σ)) (ha : PA X (e :: es) t)
    (hdb : (x == ("__debug__" : Str)) = false := by decide) (he : starEach (e :: es) X.env = (false, eval e X.env) :: starEach es X.env := by rfl) (hpl : (backTo pos (starEach es X.env)).any (·.1) = false := by rfl) :
    PE X (.Call (.Name x p) (e :: es) [] pos) (tFnS sp E t) := by
  obtain ⟨f, fd, hm, hkp, hb, G⟩ := F.ex
  exact pe_callS (p := p) (pos := pos) (G.mono hk) hr hg hm hkp hb hx ha hdb he hpl
end

/-! ### what of the built-ins no name of the module hides -/
structure Blt (mg : Str → Option Value) : Prop where
  isinstance : mg "isinstance" = none
  len : mg "len" = none
  range : mg "range" = none
  int : mg "int" = none
  bool : mg "bool" = none
  str : mg "str" = none
  tuple : mg "tuple" = none
  list : mg "list" = none
  set : mg "set" = none
  dict : mg "dict" = none
  abs : mg "abs" = none
  all : mg "all" = none
  any : mg "any" = none
  max : mg "max" = none
  min : mg "min" = none
  sum : mg "sum" = none
  sorted : mg "sorted" = none
  zip : mg "zip" = none
  divmod : mg "divmod" = none
  repr : mg "repr" = none
  reversed : mg "reversed" = none
  ValueError : mg "ValueError" = none

/-! ### heaps: all stays but what F names -/
def Keep (F : Addr → Prop) (H H' : Hp) : Prop := ∀ b o, H b = some o → ¬ F b → H' b = some o
abbrev No : Addr → Prop := fun _ => False
abbrev At (p : Addr) : Addr → Prop := fun b => b = p
theorem Keep.refl {F : Addr → Prop} (H : Hp) : Keep F H H := fun _ _ h _ => h
theorem Keep.trans {F : Addr → Prop} {H H1 H2 : Hp} (a : Keep F H H1) (b : Keep F H1 H2) : Keep F H H2 := fun c o h n => b c o (a c o h n) n
theorem Keep.mono {F G : Addr → Prop} {H H' : Hp} (a : Keep F H H') (h : ∀ b, F b → G b) : Keep G H H' := fun c o e n => a c o e fun z => n (h c z)
theorem Keep.of_same {F : Addr → Prop} {H H' : Hp} (a : Same H H') : Keep F H H' := fun c o e _ => a c o e
theorem Keep.same {H H' : Hp} (a : Keep No H H') : Same H H' := fun c o e => a c o e fun z => z
theorem Keep.new {F : Addr → Prop} {H : Hp} {p : Addr} {o : HO} (h : H p = none) : Keep F H (upd H p o) := fun b u e _ => by rw [upd_ne (ne_of_none e h)]; exact e
theorem Keep.at_ {H : Hp} {p : Addr} {o : HO} : Keep (At p) H (upd H p o) := fun b u e n => by rw [upd_ne n]; exact e
/-- what was free at the start may change -/
theorem Keep.free {F : Addr → Prop} {H H' : Hp} {p : Addr} {o : HO} (a : Keep F H H') (h : H p = none) : Keep F H (upd H' p o) := fun b u e n => by
  rw [upd_ne (ne_of_none e h)]; exact a b u e n
theorem Keep.put {F : Addr → Prop} {H H' : Hp} {p : Addr} {o : HO} (a : Keep F H H') (h : F p) : Keep F H (upd H' p o) := fun b u e n => by
  rw [upd_ne fun z => n (by rw [z]; exact h)]; exact a b u e n
theorem Keep.back {F : Addr → Prop} {H H' : Hp} (a : Keep F H H') {p : Addr} (h : H' p = none) (n : ¬ F p) : H p = none := by
  cases q : H p with
  | none => rfl
  | some o => rw [a p o q n] at h; cases h
theorem Keep.app {F : Addr → Prop} {H H' : Hp} {a : Addr} {o : HO} (k : Keep F H H') (e : H a = some o) (n : ¬ F a) : H' a = some o := k a o e n
theorem same_app {H H' : Hp} {a : Addr} {o : HO} (k : Same H H') (e : H a = some o) : H' a = some o := k a o e
/-- the tuples, and what is locked, stay, whatever else is done -/
structure TExt (H H' : Hp) : Prop where
  t : ∀ a xs, Rd H a (.tup xs) → Rd H' a (.tup xs)
  f : ∀ a o u, H a = some (.frz o u) → H' a = some (.frz o u)
theorem Keep.text {F : Addr → Prop} {H H' : Hp} (a : Keep F H H') (h : ∀ b, F b → Mut (H b)) : TExt H H' := by
  have nt : ∀ b xs, H b = some (.tup xs) → ¬ F b := fun b xs e z => by have m := h b z; rw [e] at m; exact m
  have nf : ∀ b o u, H b = some (.frz o u) → ¬ F b := fun b o u e z => by have m := h b z; rw [e] at m; exact m
  refine ⟨fun b xs r => ?_, fun b o u e => a b _ e (nf b o u e)⟩
  rcases r with r | ⟨o, r⟩
  · exact .inl (a b _ r (nt b xs r))
  · exact .inr ⟨o, a b _ r (nf b o _ r)⟩
theorem TExt.refl (H : Hp) : TExt H H := ⟨fun _ _ h => h, fun _ _ _ h => h⟩
theorem TExt.trans {H H1 H2 : Hp} (a : TExt H H1) (b : TExt H1 H2) : TExt H H2 := ⟨fun c xs h => b.t c xs (a.t c xs h), fun c o u h => b.f c o u (a.f c o u h)⟩
theorem TExt.of_same {H H' : Hp} (a : Same H H') : TExt H H' := ⟨fun b xs r => by
  rcases r with r | ⟨o, r⟩
  · exact .inl (a b _ r)
  · exact .inr ⟨o, a b _ r⟩, fun b o u e => a b _ e⟩
theorem TExt.lst {H H' : Hp} {p : Addr} {ys : List V} (k : Keep (At p) H H') (h : H p = some (.lst ys)) : TExt H H' := k.text fun b e => by rw [show b = p from e, h]; trivial
theorem SqT.text {K : PySem.W.Frag} {H H' : Hp} {a : Addr} {xs : List V} (e : TExt H H') (h : SqT K H a xs) : SqT K H' a xs := by
  rcases h with h | h
  · exact .inl (e.t a xs h)
  · exact .inr h
/-- the script: locked, or written -/
def Scr (K : PySem.W.Frag) (H : Hp) (a : Addr) (ns : List Int) : Prop := SqL K H a (ns.map V.int) ∧ ∀ H', TExt H H' → SqL K H' a (ns.map V.int)
theorem Scr.text {K : PySem.W.Frag} {H H' : Hp} {a : Addr} {ns : List Int} (h : Scr K H a ns) (e : TExt H H') : Scr K H' a ns := ⟨h.2 H' e, fun H2 e2 => h.2 H2 (e.trans e2)⟩
theorem scr_sql {K : PySem.W.Frag} {H H' : Hp} {a : Addr} {ns : List Int} (h : Scr K H a ns) (e : TExt H H') : SqL K H' a (ns.map V.int) := h.2 H' e
theorem Scr.of {K : PySem.W.Frag} {H : Hp} {a : Addr} {ns : List Int} (hO : Only H) (h : SqL K H a (ns.map V.int)) : Scr K H a ns := by
  refine ⟨h, fun H' e => ?_⟩
  rcases h with (h | ⟨o, h⟩) | h
  · rcases hO a with z | ⟨o, xs, z⟩
    · rw [z] at h; cases h
    · rw [z] at h; cases h
  · exact .inl (.inr ⟨o, e.f a o _ h⟩)
  · exact .inr h

/-! ### data: as L2.Dp tells; data without lists stays where tuples stay -/
mutual
def imm : PyData → Bool
  | .list _ => false
  | .dict _ => false
  | .tuple xs => immAll xs
  | _ => true
def immAll : List PyData → Bool
  | [] => true
  | x :: xs => imm x && immAll xs
end
section
variable {K : PySem.W.Frag} {H H' : Hp}
mutual
theorem Dp.text (e : TExt H H') : ∀ (d : PyData) (v : V), imm d = true → Dp K H v d → Dp K H' v d
  | .none, _, _, h => by cases h; exact .non
  | .bool b, _, _, h => by cases h; exact .bl b
  | .int i, _, _, h => by cases h; exact .int i
  | .str x, _, _, h => by cases h; exact .str x
  | .list _, _, hi, _ => by simp [imm] at hi
  | .dict _, _, hi, _ => by simp [imm] at hi
  | .tuple ds, _, hi, h => by
    cases h with
    | tup hs ha => exact .tup (SqT.text e hs) (DpAll.text e ds _ (by simpa [imm] using hi) ha)
theorem DpAll.text (e : TExt H H') : ∀ (ds : List PyData) (vs : List V), immAll ds = true → DpAll K H vs ds → DpAll K H' vs ds
  | [], _, _, h => by cases h; exact .nil
  | d :: ds, _, hi, h => by
    have hi2 : imm d = true ∧ immAll ds = true := by simpa [immAll] using hi
    cases h with
    | cons h1 h2 => exact .cons (Dp.text e d _ hi2.1 h1) (DpAll.text e ds _ hi2.2 h2)
end
mutual
theorem Dp.same (e : Same H H') : ∀ (d : PyData) (v : V), Dp K H v d → Dp K H' v d
  | .none, _, h => by cases h; exact .non
  | .bool b, _, h => by cases h; exact .bl b
  | .int i, _, h => by cases h; exact .int i
  | .str x, _, h => by cases h; exact .str x
  | .list ds, _, h => by
    cases h with
    | lst hs ha => exact .lst (e.seq hs) (DpAll.same e ds _ ha)
  | .dict _, _, h => by cases h
  | .tuple ds, _, h => by
    cases h with
    | tup hs ha => exact .tup (SqT.text (TExt.of_same e) hs) (DpAll.same e ds _ ha)
theorem DpAll.same (e : Same H H') : ∀ (ds : List PyData) (vs : List V), DpAll K H vs ds → DpAll K H' vs ds
  | [], _, h => by cases h; exact .nil
  | d :: ds, _, h => by
    cases h with
    | cons h1 h2 => exact .cons (Dp.same e d _ h1) (DpAll.same e ds _ h2)
end
end
theorem immAll_map {α : Type} (f : α → PyData) (h : ∀ x, imm (f x) = true) : ∀ xs : List α, immAll (xs.map f) = true
  | [] => rfl
  | x :: xs => by simp [immAll, h x, immAll_map f h xs]

/-! ### readings, one step each: what is left is what follows -/
section
variable {K : PySem.W.Frag} {σ : St} {H : Hp} {Q : VK} {v x y : V} {ta tb tc te : TE} {r : R2} {t : TA} {tt uu : TT} {tu tw : TS} {nx bk ct : St → Hp → Prop} {rt : VK} {A B : Prop}
theorem r_var {i : Nat} (h : σ[i]? = some (some v)) (q : Q v H) : tVar i σ H Q := ⟨v, h, q⟩
theorem r_c (q : Q v H) : tC v σ H Q := q
theorem r_op (q : ta σ H fun x H1 => tb σ H1 fun y H2 => r x y H2 Q) : tOp r ta tb σ H Q := q
theorem r_un {u : V → Hp → VK → Prop} (q : ta σ H fun x H1 => u x H1 Q) : tUn u ta σ H Q := q
theorem r_I0 {g : Int → Int → V} {i j : Int} (q : Q (g i j) H) : rI0 g (.int i) (.int j) H Q := ⟨i, j, rfl, rfl, q⟩
theorem r_I {C : Int → Int → Prop} {g : Int → Int → V} {i j : Int} (hc : C i j) (q : Q (g i j) H) : rI C g (.int i) (.int j) H Q := ⟨i, j, rfl, rfl, hc, q⟩
theorem r_U {g : Int → V} {i : Int} (q : Q (g i) H) : rU g (.int i) H Q := ⟨i, rfl, q⟩
theorem r_eqi {i j : Int} (q : Q (.bl (decide (i = j))) H) : rEq (.int i) (.int j) H Q := ⟨rfl, by
  have e : decide (V.int i = V.int j) = decide (i = j) := by rw [Bool.eq_iff_iff]; simp
  rw [e]; exact q⟩
theorem r_nei {i j : Int} (q : Q (.bl (!decide (i = j))) H) : rNe (.int i) (.int j) H Q := ⟨rfl, by
  have e : decide (V.int i = V.int j) = decide (i = j) := by rw [Bool.eq_iff_iff]; simp
  rw [e]; exact q⟩
theorem r_cons {tr : TA} {Q : List V → Hp → Prop} (q : te σ H fun x H1 => tr σ H1 fun xs H2 => Q (x :: xs) H2) : tCons te tr σ H Q := q
theorem r_nil {Q : List V → Hp → Prop} (q : Q [] H) : tNil σ H Q := q
theorem r_fn {sp : Sp} {E : XK} (q : t σ H fun vs H1 => sp vs H1 Q E) : tFn sp E t σ H Q := q
theorem r_fnS {sp : Sp} {E : St → XK} (q : t σ H fun vs H1 => sp vs H1 Q (E σ)) : tFnS sp E t σ H Q := q
theorem r_CB {u : List V → Hp → VK → Prop} (q : t σ H fun vs H1 => u vs H1 Q) : tCB u t σ H Q := q
/-- a new object -/
def uNew (o : HO) (n : Nat) (H : Hp) (Q : VK) : Prop := n ≤ sizeLine ∧ ∀ p, H p = none → Q (.ref p) (upd H p o)
theorem r_tup (q : t σ H fun xs H1 => uNew (.tup xs) xs.length H1 Q) : tTup t σ H Q := q
theorem r_lst (q : t σ H fun xs H1 => uNew (.lst xs) xs.length H1 Q) : tLst t σ H Q := q
theorem r_new {o : HO} {n : Nat} (hn : n ≤ sizeLine) (q : ∀ p H', H p = none → Same H H' → H' p = some o → Q (.ref p) H') : uNew o n H Q :=
  ⟨hn, fun p hp => q p _ hp (Keep.same (Keep.new hp)) upd_same⟩
theorem sz_lit {n : Nat} (h : Nat.ble n 100000 = true) : n ≤ sizeLine := by
  rw [sizeLine_eq]
  exact Nat.le_trans (Nat.le_of_ble_eq_true h) (by decide)
theorem sz_le {n : Nat} (h : n ≤ 16777216) : n ≤ sizeLine := by rw [sizeLine_eq]; exact h
/-! rules with K by name -/
section
variable {X : Cx}
theorem opK (K : PySem.W.Frag) {f : Value → Value → Sem Value} {r : PySem.W.Frag → R2} (h : OpR X f (r X.K)) (hK : X.K = K := by rfl) : OpR X f (r K) := hK ▸ h
theorem ixK (K : PySem.W.Frag) {r : PySem.W.Frag → R2} (h : IxR X (r X.K)) (hK : X.K = K := by rfl) : IxR X (r K) := hK ▸ h
theorem slK (K : PySem.W.Frag) {r : PySem.W.Frag → V → Option Int → Option Int → Hp → VK → Prop} (h : SlR X (r X.K)) (hK : X.K = K := by rfl) : SlR X (r K) := hK ▸ h
theorem crK (K : PySem.W.Frag) {f : Value} {r : PySem.W.Frag → List V → Hp → VK → Prop} (h : CallR X f (r X.K)) (hK : X.K = K := by rfl) : CallR X f (r K) := hK ▸ h
variable {o e l tg value : Expr} {es : List Expr} {to te tl tv : TE} {t : TA} {ts : TGs} {name f : Str} {apos cpos pos pos' tpos : Pos} {T id : String} {r : V → List V → Hp → VK → Prop} {n k : Nat}
theorem piK_list (K : PySem.W.Frag) (hl : PE X l tl) (hK : X.K = K := by rfl) : PI X tg l (iList K tl) := hK ▸ pi_list hl
theorem piK_tup (K : PySem.W.Frag) (hl : PE X l tl) (hK : X.K = K := by rfl) : PI X tg l (iTup K tl) := hK ▸ pi_tup hl
/-- what is walked is a list or a tuple -/
def iSeq (K : PySem.W.Frag) (tl : TE) : TI := fun σ H R => iList K tl σ H R ∨ iTup K tl σ H R
theorem piK_seq (K : PySem.W.Frag) (hl : PE X l tl) (hK : X.K = K := by rfl) : PI X tg l (iSeq K tl) := by
  subst hK
  exact ⟨fun pins s σ H R I h => h.elim ((pi_list hl).run pins s σ H R I) ((pi_tup hl).run pins s σ H R I)⟩
theorem peK_revL (K : PySem.W.Frag) {kk : Nat} {p1 p2 p3 : Pos} (he : PE X e te) (hK : X.K = K := by rfl) : PE X (.Subscript e (.Slice none none (some (.UnaryOp .USub (.Constant (.int 1) kk p1) p2)) p3) pos) (tRevL K te) := hK ▸ pe_revL he
theorem piK_zip (K : PySem.W.Frag) {e2 : Expr} {kk : Nat} {elts : List Expr} {p : Pos} (hm : X.mg "zip" = none) (ha : PA X [e, e2] t) (hg : Gl X "zip" := by rfl)
    (hs : starEach [e, e2] X.env = (false, eval e X.env) :: starEach [e2] X.env := by rfl) (hpl : (backTo pos (starEach [e2] X.env)).any (·.1) = false := by rfl) (hK : X.K = K := by rfl) :
    PI X (.Tuple elts kk tpos) (.Call (.Name "zip" p) [e, e2] [] pos) (RZ.iZipA K t) := hK ▸ RZ.pi_zipA hg hm ha hs hpl
theorem pgK_tup (K : PySem.W.Frag) (hc : X.calm = true) (h : PGs X es ts) (hn : (assignEach es X.env).length = n := by rfl) (hst : (assignEach es X.env).findIdx? (·.1) = none := by rfl) (hK : X.K = K := by rfl) : PG X (.Tuple es k pos) (gTup K n ts) := hK ▸ pg_tup hc h hn hst
theorem pgK_lst (K : PySem.W.Frag) (hc : X.calm = true) (h : PGs X es ts) (hn : (assignEach es X.env).length = n := by rfl) (hst : (assignEach es X.env).findIdx? (·.1) = none := by rfl) (hK : X.K = K := by rfl) : PG X (.Tuple es k pos) (gLst K n ts) := hK ▸ pg_lst hc h hn hst
theorem peK_fld (K : PySem.W.Frag) (he : PE X e te) (hb : attributeBase e f X.env (eval e X.env) = eval e X.env := by rfl) (hK : X.K = K := by rfl) : PE X (.Attribute e f pos) (tFld K te f) := hK ▸ pe_fld he hb
theorem peK_bm0 (K : PySem.W.Frag) (pa : PlainAttrs T) (slot : Slot T name id) (hty : typeOf (.builtin id) = pure (.type "method_descriptor")) (hm : MtR X id r) (ho : PE X o to)
    (hbase : attributeBase o name X.env (eval o X.env) = eval o X.env := by rfl) (hline : (apos.endLine == cpos.line) = true := by rfl) (hK : X.K = K := by rfl) : PE X (.Call (.Attribute o name apos) [] [] cpos) (tBM0 K T r to) := hK ▸ pe_bm0 pa slot hty hm ho hbase hline
theorem peK_bm (K : PySem.W.Frag) (pa : PlainAttrs T) (slot : Slot T name id) (hty : typeOf (.builtin id) = pure (.type "method_descriptor")) (hm : MtR X id r) (ho : PE X o to) (ha : PA X (e :: es) t)
    (hbase : attributeBase o name X.env (eval o X.env) = eval o X.env := by rfl)
    (hfew : ((backTo cpos (starEach (e :: es) X.env)).all (fun x => !x.1) && (backToKw cpos (keywordEach [] X.env)).all (fun x => x.1.isSome)
      && decide ((e :: es).length + ([] : List Keyword).length + (if ([] : List Keyword).isEmpty then 0 else 1) < 30)) = true := by rfl)
    (hline : (apos.endLine == cpos.line) = true := by rfl) (hs : starEach (e :: es) X.env = (false, eval e X.env) :: starEach es X.env := by rfl) (hplain : (backTo cpos (starEach es X.env)).any (·.1) = false := by rfl) (hK : X.K = K := by rfl) :
    PE X (.Call (.Attribute o name apos) (e :: es) [] cpos) (tBM K T r to t) := hK ▸ pe_bm pa slot hty hm ho ha hbase hfew hline hs hplain
theorem psK_fld (K : PySem.W.Frag) (ha : PE X o to) (hv : PE X value tv) (hs : swapsWith value (some (.Attribute o f pos')) pos.line X.env = pure false := by rfl) (hK : X.K = K := by rfl) : PS X (.Assign [.Attribute o f pos'] value pos) (sFld K to tv f) := hK ▸ ps_fld ha hv hs
theorem psK_fldaug (K : PySem.W.Frag) {op : Operator} {rd : V → V → Hp → VK → Prop} (ha : PE X o to) (hv : PE X value tv) (hop : InOp X op rd) (hK : X.K = K := by rfl) : PS X (.AugAssign (.Attribute o f tpos) op value pos) (sFldAug K to tv rd f) := hK ▸ ps_fldaug ha hv hop
end
/-! tests -/
theorem r_test {Q : Bool → Hp → Prop} (q : te σ H fun x H' => ∃ k, x = .bl k ∧ Q k H') : tTest te σ H Q := q
theorem r_B {Q : Bool → Hp → Prop} (q : te σ H fun x H' => ∃ k, x = .bl k ∧ Q k H') : tB te σ H Q := q
theorem r_bl {b : Bool} {Q : Bool → Prop} (q : Q b) : ∃ k, V.bl b = .bl k ∧ Q k := ⟨b, rfl, q⟩
theorem r_and {Q : Bool → Hp → Prop} (q : tt σ H fun c H1 => if c = true then uu σ H1 Q else Q false H1) : tAnd tt uu σ H Q := q
theorem r_or {Q : Bool → Hp → Prop} (q : tt σ H fun c H1 => if c = true then Q true H1 else uu σ H1 Q) : tOr tt uu σ H Q := q
theorem r_yes {Q : Bool → Hp → Prop} (q : Q true H) : tYes σ H Q := q
theorem r_not {Q : Bool → Hp → Prop} (q : tt σ H fun c H1 => Q (!c) H1) : tNot tt σ H Q := q
theorem r_andV (q : ta σ H fun x H1 => ∃ c, x = .bl c ∧ if c = true then tb σ H1 Q else Q (.bl false) H1) : tAndV ta tb σ H Q := q
theorem r_orV (q : ta σ H fun x H1 => ∃ c, x = .bl c ∧ if c = true then Q (.bl true) H1 else tb σ H1 Q) : tOrV ta tb σ H Q := q
theorem r_notV (q : ta σ H fun x H1 => ∃ c, x = .bl c ∧ Q (.bl (!c)) H1) : tNotV ta σ H Q := q
theorem r_if (q : tt σ H fun c H1 => if c = true then ta σ H1 Q else tb σ H1 Q) : tIf tt ta tb σ H Q := q
theorem r_chain {r' : R2} (q : ta σ H fun x H1 => tb σ H1 fun y H2 => r x y H2 fun z H3 => ∃ k, z = .bl k ∧ (if k = true then tc σ H3 fun w' H4 => r' y w' H4 Q else Q (.bl false) H3)) : tChain r r' ta tb tc σ H Q := q
theorem i_T (q : A) : if true = true then A else B := by rw [if_pos rfl]; exact q
theorem i_F (q : B) : if false = true then A else B := by rw [if_neg Bool.false_ne_true]; exact q
theorem i_NT (q : B) : if (!true) = true then A else B := by rw [if_neg (by decide)]; exact q
theorem i_NF (q : A) : if (!false) = true then A else B := by rw [if_pos (by decide)]; exact q
theorem i_pos {c : Prop} [Decidable c] (h : c) (q : A) : if decide c = true then A else B := by rw [if_pos (decide_eq_true h)]; exact q
theorem i_neg {c : Prop} [Decidable c] (h : ¬ c) (q : B) : if decide c = true then A else B := by rw [if_neg (by simpa using h)]; exact q
theorem i_npos {c : Prop} [Decidable c] (h : ¬ c) (q : A) : if (!decide c) = true then A else B := by rw [if_pos (by simpa using h)]; exact q
theorem i_nneg {c : Prop} [Decidable c] (h : c) (q : B) : if (!decide c) = true then A else B := by rw [if_neg (by simpa using h)]; exact q
theorem i_cases {c : Prop} [Decidable c] (p : c → A) (n : ¬ c → B) : if decide c = true then A else B := by
  by_cases h : c
  · exact i_pos h (p h)
  · exact i_neg h (n h)
theorem i_ncases {c : Prop} [Decidable c] (p : ¬ c → A) (n : c → B) : if (!decide c) = true then A else B := by
  by_cases h : c
  · exact i_nneg h (n h)
  · exact i_npos h (p h)
theorem i_bool {b : Bool} (p : b = true → A) (n : b = false → B) : if b = true then A else B := by
  cases b with
  | true => exact i_T (p rfl)
  | false => exact i_F (n rfl)
/-- two at once -/
def uPar (i j : Nat) (vs : List V) (σ : St) (H : Hp) (nx : St → Hp → Prop) : Prop := ∃ v w, vs = [v, w] ∧ nx ((σ.set i (some v)).set j (some w)) H
/-! statements -/
theorem r_next (q : nx σ H) : tNext ⟨nx, rt, bk, ct⟩ σ H := q
theorem r_brk (q : bk σ H) : tBreak ⟨nx, rt, bk, ct⟩ σ H := q
theorem r_cont (q : ct σ H) : tCont ⟨nx, rt, bk, ct⟩ σ H := q
theorem r_seq (q : tu ⟨tw ⟨nx, rt, bk, ct⟩, rt, bk, ct⟩ σ H) : tSeq tu tw ⟨nx, rt, bk, ct⟩ σ H := q
theorem r_asg {i : Nat} (q : te σ H fun v H1 => nx (σ.set i (some v)) H1) : tAsg te (gName i) ⟨nx, rt, bk, ct⟩ σ H := q
theorem r_asgG {g : TG} (q : te σ H fun v H1 => g v σ H1 nx) : tAsg te g ⟨nx, rt, bk, ct⟩ σ H := q
theorem r_aug {i : Nat} {x : V} {ti : TIp} (h : σ[i]? = some (some x)) (q : te σ H fun y H1 => ti x y H1 fun z H2 => nx (σ.set i (some z)) H2) : tAug i te ti ⟨nx, rt, bk, ct⟩ σ H := ⟨x, h, q⟩
theorem r_ipI {g : Int → Int → Int} {i j : Int} (q : Q (.int (g i j)) H) : ipI g (.int i) (.int j) H Q := ⟨i, j, rfl, rfl, q⟩
theorem r_par {i j : Nat} (q : t σ H fun vs H1 => uPar i j vs σ H1 nx) : tPar i j t ⟨nx, rt, bk, ct⟩ σ H := q
theorem r_par2 {i j : Nat} {R : St → Hp → Prop} (q : R ((σ.set i (some x)).set j (some y)) H) : uPar i j [x, y] σ H R := ⟨x, y, rfl, q⟩
theorem r_drop (q : te σ H fun _ H1 => nx σ H1) : tDrop te ⟨nx, rt, bk, ct⟩ σ H := q
theorem r_ret (q : te σ H rt) : tRet te ⟨nx, rt, bk, ct⟩ σ H := q
theorem r_retN (q : rt .non H) : tRetN ⟨nx, rt, bk, ct⟩ σ H := q
theorem r_ifS (q : tt σ H fun b H1 => if b = true then tu ⟨nx, rt, bk, ct⟩ σ H1 else tw ⟨nx, rt, bk, ct⟩ σ H1) : tIfS tt tu tw ⟨nx, rt, bk, ct⟩ σ H := q
theorem r_start {tu : TS} {D : Ends} {N : List Str} {vs : List V} {σ' : St} (e : start N vs = σ') (q : tu D σ' H) : tu D (start N vs) H := by rw [e]; exact q
theorem r_set {i : Nat} {σ' : St} {P : St → Prop} (e : σ.set i (some v) = σ') (q : P σ') : P (σ.set i (some v)) := by rw [e]; exact q
end

/-! ### numbers of any size -/
theorem intBits_small {i : Int} {n : Nat} (h : i.natAbs < 2 ^ n) : Builtin.Int.intBits i ≤ n := by
  unfold Builtin.Int.intBits
  split
  · omega
  · rename_i h0
    have h1 : i.natAbs ≠ 0 := by simpa using h0
    have := (Nat.log2_lt h1).mpr h
    omega
theorem mul_l {i j : Int} (h1 : -(2 ^ 64) < i) (h2 : i < 2 ^ 64) : IntMulOk i j := .of_left (intBits_le_64 h1 h2)
theorem mul_r {i j : Int} (h1 : -(2 ^ 64) < j) (h2 : j < 2 ^ 64) : IntMulOk i j := .of_right (intBits_le_64 h1 h2)
theorem mul_b {i j : Int} {n m : Nat} (h1 : i.natAbs < 2 ^ n) (h2 : j.natAbs < 2 ^ m) (hn : n ≤ 1048576 := by decide) (hm : m ≤ 1048576 := by decide) : IntMulOk i j :=
  .of_bits (Nat.le_trans (intBits_small h1) (Nat.le_trans hn (by decide))) (Nat.le_trans (intBits_small h2) (Nat.le_trans hm (by decide)))
theorem div_b {i j : Int} {n : Nat} (h0 : 0 < j) (h : j.natAbs < 2 ^ n) (hn : n ≤ 9000 := by decide) (h1 : 0 < n := by decide) : CDivW i j := wide_div h0 h h1 hn
section
variable {X : Cx}
theorem op_mulY : OpR X (binaryOp .Mult) (rI IntMulOk fun i j => .int (i * j)) := opI fun _ _ _ _ _ _ _ hc q => mul_int q hc
theorem pe_powC {i j z : Int} {a b : Nat} {p1 p2 pos : Pos} (h : 0 ≤ j ∧ j ≤ 1000000 ∧ i.natAbs < 2 ^ 64) (e : i ^ j.toNat = z) :
    PE X (.BinOp (.Constant (.int i) a p1) .Pow (.Constant (.int j) b p2) pos) (tC (.int z)) := by
  have h1 : PE X (.BinOp (.Constant (.int i) a p1) .Pow (.Constant (.int j) b p2) pos) (tOp (rI CPow fun i j => .int (i ^ j.toNat)) (tC (.int i)) (tC (.int j))) := pe_op op_pow pe_int pe_int
  exact ⟨fun pins s σ H Q I q => h1.run pins s σ H Q I ⟨i, j, rfl, rfl, h, by
    show Q (.int (i ^ j.toNat)) H
    rw [e]; exact q⟩⟩
/-! ### built-ins by names of mine, that steps may see them -/
def uInt1 : List V → Hp → VK → Prop := fun xs H Q => (∃ i, xs = [.int i] ∧ Q (.int i) H) ∨ ∃ k, xs = [.bl k] ∧ Q (.int (if k then 1 else 0)) H
theorem c_int1 : CallR X (.type "int") uInt1 := call_int1
def uLen (K : PySem.W.Frag) : List V → Hp → VK → Prop := fun xs H Q => ∃ x n, xs = [x] ∧ LenV K x H n ∧ Q (.int n) H
theorem c_len : CallR X (.builtin "len") (uLen X.K) := call_len
def uAbs : List V → Hp → VK → Prop := fun xs H Q => ∃ i, xs = [.int i] ∧ Q (.int (if i < 0 then -i else i)) H
theorem c_abs : CallR X (.builtin "abs") uAbs := call_abs
def uMax2 : List V → Hp → VK → Prop := fun xs H Q => ∃ i j, xs = [.int i, .int j] ∧ Q (.int (if j > i then j else i)) H
theorem c_max2 (hc : X.calm = true) : CallR X (.builtin "max") uMax2 := call_max2 hc
def uMin2 : List V → Hp → VK → Prop := fun xs H Q => ∃ i j, xs = [.int i, .int j] ∧ Q (.int (if j < i then j else i)) H
theorem c_min2 (hc : X.calm = true) : CallR X (.builtin "min") uMin2 := call_min2 hc
def uStr : List V → Hp → VK → Prop := fun xs H Q => ∃ i, xs = [.int i] ∧ i.natAbs.log2 < 1920 ∧ Q (.str (toString i)) H
theorem c_str : CallR X (.type "str") uStr := call_str_int
def uTuple (K : PySem.W.Frag) : List V → Hp → VK → Prop := fun xs H Q => ∃ p ys, xs = [.ref p] ∧ ((SqL K H p ys ∧ ∀ l, H l = none → Q (.ref l) (upd H l (.tup ys))) ∨ (SqT K H p ys ∧ Q (.ref p) H))
theorem c_tuple : CallR X (.type "tuple") (uTuple X.K) := call_tuple_of
def uList (K : PySem.W.Frag) : List V → Hp → VK → Prop := fun xs H Q => ∃ p ys, xs = [.ref p] ∧ (SqL K H p ys ∨ SqT K H p ys) ∧ ∀ l, H l = none → Q (.ref l) (upd H l (.lst ys))
theorem c_list : CallR X (.type "list") (uList X.K) := call_list_of
def uIsB : R2 := fun x y H Q => ∃ a b, x = .bl a ∧ y = .bl b ∧ Q (.bl (decide (a = b))) H
theorem o_isB : OpR X (compareOp .Is) uIsB := op_is_bl
def uNotB : R2 := fun x y H Q => ∃ a b, x = .bl a ∧ y = .bl b ∧ Q (.bl (!decide (a = b))) H
theorem o_notB : OpR X (compareOp .IsNot) uNotB := op_isnot_bl
def uIsN : R2 := fun x y H Q => y = .non ∧ Q (.bl (decide (x = .non))) H
theorem o_isN : OpR X (compareOp .Is) uIsN := op_isN
def uNotN : R2 := fun x y H Q => y = .non ∧ Q (.bl (!decide (x = .non))) H
theorem o_notN : OpR X (compareOp .IsNot) uNotN := op_notN
/-- == of anything: scalars, data -/
def uEq (K : PySem.W.Frag) : R2 := fun x y H Q => rEq x y H Q ∨ rEqD K x y H Q
theorem o_eq (hu : X.A.units + 64 < cLine) : OpR X (compareOp .Eq) (uEq X.K) := op_eq.or (op_eqD hu)
def uNe (K : PySem.W.Frag) : R2 := fun x y H Q => rNe x y H Q ∨ rNeD K x y H Q
theorem o_ne (hu : X.A.units + 64 < cLine) : OpR X (compareOp .NotEq) (uNe X.K) := op_ne.or (op_neD hu)
end
section
variable {K : PySem.W.Frag} {σ : St} {H : Hp} {Q : VK} {v x y : V} {i j : Int} {a p : Addr} {xs : List V}
theorem r_int_i (q : Q (.int i) H) : uInt1 [.int i] H Q := .inl ⟨i, rfl, q⟩
theorem r_int_b {k : Bool} (q : Q (.int (if k = true then 1 else 0)) H) : uInt1 [.bl k] H Q := .inr ⟨k, rfl, q⟩
theorem r_len_l {n : Nat} (h : SqL K H a xs) (e : xs.length = n) (q : Q (.int n) H) : uLen K [.ref a] H Q := ⟨_, _, rfl, .inl ⟨xs, h, e.symm⟩, q⟩
theorem r_len_t {n : Nat} (h : SqT K H a xs) (e : xs.length = n) (q : Q (.int n) H) : uLen K [.ref a] H Q := ⟨_, _, rfl, .inr ⟨xs, h, e.symm⟩, q⟩
theorem r_len_s {z : Str} (h : z.length ≤ sizeLine) (q : Q (.int z.length) H) : uLen K [.str z] H Q := ⟨_, _, rfl, ⟨h, rfl⟩, q⟩
theorem r_abs (q : Q (.int (if i < 0 then -i else i)) H) : uAbs [.int i] H Q := ⟨i, rfl, q⟩
theorem r_max2 (q : Q (.int (if j > i then j else i)) H) : uMax2 [.int i, .int j] H Q := ⟨i, j, rfl, q⟩
theorem r_min2 (q : Q (.int (if j < i then j else i)) H) : uMin2 [.int i, .int j] H Q := ⟨i, j, rfl, q⟩
theorem r_tuple_l (h : SqL K H p xs) (q : ∀ l H', H l = none → Same H H' → H' l = some (.tup xs) → Q (.ref l) H') : uTuple K [.ref p] H Q := ⟨p, xs, rfl, .inl ⟨h, fun l hl => q l _ hl (Keep.same (Keep.new hl)) upd_same⟩⟩
theorem r_tuple_t (h : SqT K H p xs) (q : Q (.ref p) H) : uTuple K [.ref p] H Q := ⟨p, xs, rfl, .inr ⟨h, q⟩⟩
theorem r_list_l (h : SqL K H p xs) (q : ∀ l H', H l = none → Same H H' → H' l = some (.lst xs) → Q (.ref l) H') : uList K [.ref p] H Q := ⟨p, xs, rfl, .inl h, fun l hl => q l _ hl (Keep.same (Keep.new hl)) upd_same⟩
theorem r_list_t (h : SqT K H p xs) (q : ∀ l H', H l = none → Same H H' → H' l = some (.lst xs) → Q (.ref l) H') : uList K [.ref p] H Q := ⟨p, xs, rfl, .inr h, fun l hl => q l _ hl (Keep.same (Keep.new hl)) upd_same⟩
theorem r_isB {b c : Bool} (q : Q (.bl (decide (b = c))) H) : uIsB (.bl b) (.bl c) H Q := ⟨b, c, rfl, rfl, q⟩
theorem r_notB {b c : Bool} (q : Q (.bl (!decide (b = c))) H) : uNotB (.bl b) (.bl c) H Q := ⟨b, c, rfl, rfl, q⟩
theorem r_isN_n (q : Q (.bl true) H) : uIsN .non .non H Q := ⟨rfl, q⟩
theorem r_isN_i (q : Q (.bl false) H) : uIsN (.int i) .non H Q := ⟨rfl, q⟩
theorem r_isN_r (q : Q (.bl false) H) : uIsN (.ref a) .non H Q := ⟨rfl, q⟩
theorem r_isN_s {z : Str} (q : Q (.bl false) H) : uIsN (.str z) .non H Q := ⟨rfl, q⟩
theorem r_notN_n (q : Q (.bl false) H) : uNotN .non .non H Q := ⟨rfl, q⟩
theorem r_notN_i (q : Q (.bl true) H) : uNotN (.int i) .non H Q := ⟨rfl, q⟩
theorem r_notN_r (q : Q (.bl true) H) : uNotN (.ref a) .non H Q := ⟨rfl, q⟩
theorem r_notN_s {z : Str} (q : Q (.bl true) H) : uNotN (.str z) .non H Q := ⟨rfl, q⟩
theorem r_isN {k : Bool} (e : decide (x = V.non) = k) (q : Q (.bl k) H) : uIsN x .non H Q := ⟨rfl, by rw [e]; exact q⟩
theorem r_notN {k : Bool} (e : (!decide (x = V.non)) = k) (q : Q (.bl k) H) : uNotN x .non H Q := ⟨rfl, by rw [e]; exact q⟩
theorem r_eq_i (q : Q (.bl (decide (i = j))) H) : uEq K (.int i) (.int j) H Q := .inl (r_eqi q)
theorem r_ne_i (q : Q (.bl (!decide (i = j))) H) : uNe K (.int i) (.int j) H Q := .inl (r_nei q)
theorem r_eq_s {s t : Str} (q : Q (.bl (decide (s = t))) H) : uEq K (.str s) (.str t) H Q := .inl ⟨rfl, by
  have e : decide (V.str s = V.str t) = decide (s = t) := by rw [Bool.eq_iff_iff]; simp
  rw [e]; exact q⟩
theorem r_ne_s {s t : Str} (q : Q (.bl (!decide (s = t))) H) : uNe K (.str s) (.str t) H Q := .inl ⟨rfl, by
  have e : decide (V.str s = V.str t) = decide (s = t) := by rw [Bool.eq_iff_iff]; simp
  rw [e]; exact q⟩
theorem r_eq_d {d e : PyData} (hd : Dp K H x d) (he : Dp K H y e) (s1 : SeqAt.shaped d = true) (s2 : SeqAt.shaped e = true) (q : Q (.bl (PyData.eqv d e)) H) : uEq K x y H Q := .inr ⟨d, e, hd, he, s1, s2, q⟩
theorem r_ne_d {d e : PyData} (hd : Dp K H x d) (he : Dp K H y e) (s1 : SeqAt.shaped d = true) (s2 : SeqAt.shaped e = true) (q : Q (.bl (!PyData.eqv d e)) H) : uNe K x y H Q := .inr ⟨d, e, hd, he, s1, s2, q⟩
theorem r_ixl (h : SqL K H p xs) (e : atI xs i = some v) (q : Q v H) : rIx K (.ref p) (.int i) H Q := .inl ⟨p, xs, i, v, rfl, rfl, h, e, q⟩
theorem r_ixt (h : SqT K H p xs) (e : atI xs i = some v) (q : Q v H) : rIx K (.ref p) (.int i) H Q := .inr (.inl ⟨p, xs, i, v, rfl, rfl, h, e, q⟩)
theorem r_ixs {z : Str} {c : Nat} (h : z.length ≤ sizeLine) (e : atI z.cps.toList i = some c) (q : Q (.str ⟨#[c]⟩) H) : rIx K (.str z) (.int i) H Q := .inr (.inr ⟨z, i, c, rfl, rfl, h, e, q⟩)
theorem r_gsub {to ti : TE} {t : TSet} {R : St → Hp → Prop} (q : to σ H fun o H1 => ti σ H1 fun i H2 => t o i v H2 fun H3 => R σ H3) : gSub to ti t v σ H R := q
theorem r_gname {i : Nat} {R : St → Hp → Prop} (q : R (σ.set i (some v)) H) : gName i v σ H R := q
theorem r_setl {R : Hp → Prop} {j : Nat} (h : H p = some (.lst xs)) (e : ixN xs.length i = some j) (q : ∀ H', Keep (At p) H H' → H' p = some (.lst (xs.set j v)) → R H') : rSetL (.ref p) (.int i) v H R := ⟨p, xs, i, j, rfl, rfl, h, e, q _ Keep.at_ upd_same⟩
theorem r_gtup {n : Nat} {t : TGs} {R : St → Hp → Prop} (h : SqT K H a xs) (e : xs.length = n) (q : t xs σ H R) : gTup K n t (.ref a) σ H R := ⟨a, xs, rfl, h, e, q⟩
theorem r_glst {n : Nat} {t : TGs} {R : St → Hp → Prop} (h : SqL K H a xs) (e : xs.length = n) (q : t xs σ H R) : gLst K n t (.ref a) σ H R := ⟨a, xs, rfl, h, e, q⟩
theorem r_gcons {t : TG} {u : TGs} {vs : List V} {R : St → Hp → Prop} (q : t v σ H fun σ' H' => u vs σ' H' R) : gCons t u (v :: vs) σ H R := ⟨v, vs, rfl, q⟩
theorem r_gnil {R : St → Hp → Prop} (q : R σ H) : gNil [] σ H R := ⟨rfl, q⟩
theorem r_all {bs : List Bool} (h : SqL K H a (bs.map V.bl)) (q : Q (.bl (bs.all id)) H) : rAll K [.ref a] H Q := ⟨a, bs, rfl, h, q⟩
theorem r_allT (h : SqL K H a xs) (hx : ∀ v ∈ xs, v = V.bl true) (q : Q (.bl true) H) : rAll K [.ref a] H Q := by
  have e : xs = (xs.map fun _ => true).map V.bl := by
    rw [List.map_map]
    have : xs = xs.map id := by simp
    rw [this]
    simp only [List.map_map]
    exact List.map_congr_left fun v hv => hx v hv
  have e2 : (xs.map fun _ => true).all id = true := by simp
  refine r_all (bs := xs.map fun _ => true) (by rw [← e]; exact h) ?_
  rw [e2]
  exact q
theorem r_any {bs : List Bool} (h : SqL K H a (bs.map V.bl)) (q : Q (.bl (bs.any id)) H) : rAny K [.ref a] H Q := ⟨a, bs, rfl, h, q⟩
/-! isinstance -/
def tyN : PyData → String
  | .none => "NoneType"
  | .bool _ => "bool"
  | .int _ => "int"
  | .str _ => "str"
  | .list _ => "list"
  | .tuple _ => "tuple"
  | .dict _ => "dict"
def isK (n t : String) : Bool := n == t || (t == "bool" && n == "int")
def isT (n : String) (d : PyData) : Bool := isK n (tyN d)
def tyD (d : PyData) : Value := .type (tyN d)
theorem kit_tab {t n : String} (ht : t = "NoneType" ∨ t = "bool" ∨ t = "int" ∨ t = "str" ∨ t = "list" ∨ t = "tuple" ∨ t = "dict") (hn : n = "int" ∨ n = "bool" ∨ n = "tuple" ∨ n = "str" ∨ n = "list") : kitB t n = some (isK n t) := by
  rcases ht with rfl | rfl | rfl | rfl | rfl | rfl | rfl <;> rcases hn with rfl | rfl | rfl | rfl | rfl <;> decide +kernel
theorem dp_ty {d : PyData} (h : Dp K H v d) : TyX K H v (tyD d) := by
  cases h with
  | non => exact .base .non
  | bl b => exact .base (.bl b)
  | int i => exact .base (.int i)
  | str s => exact .base (.str s)
  | lst hs _ =>
    rcases hs with (hs | ⟨o, hs⟩) | ⟨o, its, n, hk, hc, _⟩
    · exact .base (.lst hs)
    · exact .base (.frz hs)
    · exact .kList hk hc
  | tup hs _ =>
    rcases hs with (hs | ⟨o, hs⟩) | ⟨o, its, n, hk, hc, _⟩
    · exact .base (.tup hs)
    · exact .fTuple hs
    · exact .kTuple hk hc
theorem r_isi {d : PyData} {n : String} (h : Dp K H v d) (hn : n = "int" ∨ n = "bool" ∨ n = "tuple" ∨ n = "str" ∨ n = "list") (q : Q (.bl (isT n d)) H) : rIsi K [v, .ty n] H Q := by
  refine ⟨v, .ty n, tyD d, .type n, isT n d, rfl, .ty n, dp_ty h, ?_, q⟩
  refine kit_ty (kit_tab ?_ hn)
  cases d <;> simp [tyN]
end

section
variable {K : PySem.W.Frag} {H : Hp} {Q : VK} {a : Addr} {xs : List V} {i : Int} {b : Bool} {z : Str}
theorem r_isi_ii (q : Q (.bl true) H) : rIsi K [.int i, .ty "int"] H Q := r_isi (n := "int") (.int i) (by decide) q
theorem r_isi_ib (q : Q (.bl false) H) : rIsi K [.int i, .ty "bool"] H Q := r_isi (n := "bool") (.int i) (by decide) q
theorem r_isi_it (q : Q (.bl false) H) : rIsi K [.int i, .ty "tuple"] H Q := r_isi (n := "tuple") (.int i) (by decide) q
theorem r_isi_is (q : Q (.bl false) H) : rIsi K [.int i, .ty "str"] H Q := r_isi (n := "str") (.int i) (by decide) q
theorem r_isi_ni (q : Q (.bl false) H) : rIsi K [.non, .ty "int"] H Q := r_isi (n := "int") .non (by decide) q
theorem r_isi_nt (q : Q (.bl false) H) : rIsi K [.non, .ty "tuple"] H Q := r_isi (n := "tuple") .non (by decide) q
theorem r_isi_bb (q : Q (.bl true) H) : rIsi K [.bl b, .ty "bool"] H Q := r_isi (n := "bool") (.bl b) (by decide) q
theorem r_isi_bi (q : Q (.bl true) H) : rIsi K [.bl b, .ty "int"] H Q := r_isi (n := "int") (.bl b) (by decide) q
theorem r_isi_ss (q : Q (.bl true) H) : rIsi K [.str z, .ty "str"] H Q := r_isi (n := "str") (.str z) (by decide) q
theorem r_isi_si (q : Q (.bl false) H) : rIsi K [.str z, .ty "int"] H Q := r_isi (n := "int") (.str z) (by decide) q
theorem r_isi_st (q : Q (.bl false) H) : rIsi K [.str z, .ty "tuple"] H Q := r_isi (n := "tuple") (.str z) (by decide) q
theorem tyX_tup (h : SqT K H a xs) : TyX K H (.ref a) (.type "tuple") := by
  rcases h with (hs | ⟨o, hs⟩) | ⟨o, its, n, hk, hc, _⟩
  · exact .base (.tup hs)
  · exact .fTuple hs
  · exact .kTuple hk hc
theorem tyX_lst (h : SqL K H a xs) : TyX K H (.ref a) (.type "list") := by
  rcases h with (hs | ⟨o, hs⟩) | ⟨o, its, n, hk, hc, _⟩
  · exact .base (.lst hs)
  · exact .base (.frz hs)
  · exact .kList hk hc
theorem r_isi_tt (h : SqT K H a xs) (q : Q (.bl true) H) : rIsi K [.ref a, .ty "tuple"] H Q := ⟨_, _, _, _, true, rfl, .ty "tuple", tyX_tup h, kit_ty (kit_tab (by decide) (by decide)), q⟩
theorem r_isi_ti (h : SqT K H a xs) (q : Q (.bl false) H) : rIsi K [.ref a, .ty "int"] H Q := ⟨_, _, _, _, false, rfl, .ty "int", tyX_tup h, kit_ty (kit_tab (by decide) (by decide)), q⟩
end
/-! ### walks: how many turns, what each turn yields -/
structure Wk (J : It) (n : Nat) (src : Hp → Prop) (item : Nat → Hp → V → Hp → Prop) : Prop where
  go : ∀ i H, src H → i < n → J.go i H
  stop : ∀ i H, src H → n ≤ i → J.stop i H
  yld : ∀ i H x H', src H → J.yld i H x H' → item i H x H'
section
variable {K : PySem.W.Frag} {a b : Addr} {xs ys : List V}
theorem wk_list : Wk (Itl K a) xs.length (fun H => SqL K H a xs) (fun i H x H' => H' = H ∧ xs[i]? = some x) where
  go := fun i H h hi => ⟨xs, xs[i], h, by simp [hi]⟩
  stop := fun i H h hi => ⟨xs, h, hi⟩
  yld := fun i H x H' h y => by obtain ⟨e, y⟩ := y; exact ⟨e, y xs h⟩
theorem wk_tup : Wk (Itt K a) xs.length (fun H => SqT K H a xs) (fun i H x H' => H' = H ∧ xs[i]? = some x) where
  go := fun i H h hi => ⟨xs, xs[i], h, by simp [hi]⟩
  stop := fun i H h hi => ⟨xs, h, hi⟩
  yld := fun i H x H' h y => by obtain ⟨e, y⟩ := y; exact ⟨e, y xs h⟩
theorem wk_rng {lo : Int} {n : Nat} : Wk (Itr lo n) n (fun _ => True) (fun i H x H' => H' = H ∧ x = .int (lo + i)) where
  go := fun i H _ hi => hi
  stop := fun i H _ hi => hi
  yld := fun i H x H' _ y => y
theorem wk_rngC {lo c : Int} {n : Nat} : Wk (Itc lo c n) n (fun _ => True) (fun i H x H' => H' = H ∧ x = .int (lo + (i : Nat) * c)) where
  go := fun i H _ hi => hi
  stop := fun i H _ hi => hi
  yld := fun i H x H' _ y => y
theorem wk_zipL : Wk (Itz K a b) (min xs.length ys.length) (fun H => SqL K H a xs ∧ SqL K H b ys) (fun i H v H' => ∃ T x y, v = .ref T ∧ H T = none ∧ H' = upd H T (.tup [x, y]) ∧ xs[i]? = some x ∧ ys[i]? = some y) where
  go := fun i H h hi => ⟨xs, ys, xs[i]'(by omega), ys[i]'(by omega), h.1, h.2, by simp, by simp⟩
  stop := fun i H h hi => ⟨xs, ys, h.1, h.2, by omega⟩
  yld := fun i H v H' h y => by
    obtain ⟨T, x, z, e1, e2, e3, e4, e5⟩ := y
    exact ⟨T, x, z, e1, e2, e3, e4 xs h.1, e5 ys h.2⟩
theorem wk_zipT : Wk (RZ.ItzT K a b) (min xs.length ys.length) (fun H => SqT K H a xs ∧ SqT K H b ys) (fun i H v H' => ∃ T x y, v = .ref T ∧ H T = none ∧ H' = upd H T (.tup [x, y]) ∧ xs[i]? = some x ∧ ys[i]? = some y) where
  go := fun i H h hi => ⟨xs, ys, xs[i]'(by omega), ys[i]'(by omega), h.1, h.2, by simp, by simp⟩
  stop := fun i H h hi => ⟨xs, ys, h.1, h.2, by omega⟩
  yld := fun i H v H' h y => by
    obtain ⟨T, x, z, e1, e2, e3, e4, e5⟩ := y
    exact ⟨T, x, z, e1, e2, e3, e4 xs h.1, e5 ys h.2⟩
end
/-- what a for asks once it is known what it walks -/
def ForW (J : It) (g : TG) (tb : TS) : TS := fun D σ H => ∃ W : Nat → Nat → St → Hp → Prop, (∃ m, W 0 m σ H) ∧ ∀ i m σ H, W i m σ H →
  (J.stop i H ∧ D.nx σ H) ∨ (J.go i H ∧ ∃ N : St → Hp → Prop, (∀ σ' H', N σ' H' → ∃ m', m' < m ∧ W (i + 1) m' σ' H') ∧ ∀ x H', J.yld i H x H' → g x σ H' fun σ2 H2 => tb { D with nx := N, ct := N, bk := D.nx } σ2 H2)
def LcW (J : It) (g : TG) (tt : TT) (te : TE) (vs : List Nat) : TE := fun σ H1 Q => ∀ D, H1 D = none → ∃ W : Nat → Nat → Hp → Prop, (∃ m, W 0 m (upd H1 D (.lst []))) ∧ ∀ i m H, W i m H →
  (J.stop i H ∧ Q (.ref D) H) ∨ (J.go i H ∧ ∃ Nx : Hp → Prop, (∀ H', Nx H' → ∃ m', m' < m ∧ W (i + 1) m' H') ∧ ∀ x H', J.yld i H x H' → g x (wipe σ vs) H' fun σ2 H2 => wipe σ2 vs = wipe σ vs ∧ tt σ2 H2 fun b H3 =>
    if b = true then te σ2 H3 fun y H4 => ∃ acc, H4 D = some (.lst acc) ∧ acc.length < sizeLine ∧ Nx (upd H4 D (.lst (acc ++ [y]))) else Nx H3)
section
variable {K : PySem.W.Frag} {σ : St} {H : Hp} {Q : VK} {ta tl te : TE} {tt : TT} {tb : TS} {g : TG} {wi : TI} {nx bk ct : St → Hp → Prop} {rt : VK} {vs : List Nat} {J : It} {n : Nat} {src : Hp → Prop} {item : Nat → Hp → V → Hp → Prop} {a b : Addr} {xs ys : List V}
theorem r_for (q : wi σ H fun J H1 => ForW J g tb ⟨nx, rt, bk, ct⟩ σ H1) : tFor wi g tb ⟨nx, rt, bk, ct⟩ σ H := q
theorem r_lc (q : wi σ H fun J H1 => LcW J g tt te vs σ H1 Q) : tLc wi g tt te vs σ H Q := q
/-- a list or a tuple that is walked -/
def uWalk (K : PySem.W.Frag) (x : V) (H : Hp) (R : It → Hp → Prop) (l : Bool) : Prop := ∃ a, x = .ref a ∧ (if l = true then (∃ xs, SqL K H a xs) ∧ R (Itl K a) H else (∃ xs, SqT K H a xs) ∧ R (Itt K a) H)
theorem r_ilist {R : It → Hp → Prop} (q : tl σ H fun x H1 => uWalk K x H1 R true) : iList K tl σ H R := by
  have e : (fun (x : V) (H1 : Hp) => uWalk K x H1 R true) = fun x H1 => ∃ a, x = .ref a ∧ (∃ xs, SqL K H1 a xs) ∧ R (Itl K a) H1 := by
    funext x H1
    simp [uWalk]
  rw [e] at q
  exact q
theorem r_itup {R : It → Hp → Prop} (q : tl σ H fun x H1 => uWalk K x H1 R false) : iTup K tl σ H R := by
  have e : (fun (x : V) (H1 : Hp) => uWalk K x H1 R false) = fun x H1 => ∃ a, x = .ref a ∧ (∃ xs, SqT K H1 a xs) ∧ R (Itt K a) H1 := by
    funext x H1
    simp [uWalk]
  rw [e] at q
  exact q
theorem r_wl {R : It → Hp → Prop} (h : SqL K H a xs) (q : R (Itl K a) H) : uWalk K (.ref a) H R true := ⟨a, rfl, by rw [if_pos rfl]; exact ⟨⟨xs, h⟩, q⟩⟩
theorem r_wt {R : It → Hp → Prop} (h : SqT K H a xs) (q : R (Itt K a) H) : uWalk K (.ref a) H R false := ⟨a, rfl, by rw [if_neg (by decide)]; exact ⟨⟨xs, h⟩, q⟩⟩
def uRng1 (vs : List V) (H : Hp) (R : It → Hp → Prop) : Prop := ∃ j : Int, vs = [.int j] ∧ -(2 ^ 62) ≤ j ∧ j < 2 ^ 62 ∧ R (Itr 0 j.toNat) H
def uRng2 (vs : List V) (H : Hp) (R : It → Hp → Prop) : Prop := ∃ i j : Int, vs = [.int i, .int j] ∧ (-(2 ^ 62) ≤ i ∧ i < 2 ^ 62 ∧ -(2 ^ 62) ≤ j ∧ j < 2 ^ 62) ∧ R (Itr i (j - i).toNat) H
theorem r_irng1 {t : TA} {R : It → Hp → Prop} (q : t σ H fun vs H1 => uRng1 vs H1 R) : iRng1 t σ H R := q
theorem r_irng2 {t : TA} {R : It → Hp → Prop} (q : t σ H fun vs H1 => uRng2 vs H1 R) : iRng2 t σ H R := q
theorem r_rng1 {j : Int} {R : It → Hp → Prop} (h1 : -(2 ^ 62) ≤ j) (h2 : j < 2 ^ 62) (q : R (Itr 0 j.toNat) H) : uRng1 [.int j] H R := ⟨j, rfl, h1, h2, q⟩
theorem r_rng2 {i j : Int} {R : It → Hp → Prop} (h1 : -(2 ^ 62) ≤ i) (h2 : i < 2 ^ 62) (h3 : -(2 ^ 62) ≤ j) (h4 : j < 2 ^ 62) (q : R (Itr i (j - i).toNat) H) : uRng2 [.int i, .int j] H R := ⟨i, j, rfl, ⟨h1, h2, h3, h4⟩, q⟩
def uZip (K : PySem.W.Frag) (vs : List V) (H : Hp) (R : It → Hp → Prop) : Prop := ∃ a b xs ys, vs = [.ref a, .ref b] ∧ ((SqL K H a xs ∧ SqL K H b ys ∧ R (Itz K a b) H) ∨ (SqT K H a xs ∧ SqT K H b ys ∧ R (RZ.ItzT K a b) H))
theorem r_izip {t : TA} {R : It → Hp → Prop} (q : t σ H fun vs H1 => uZip K vs H1 R) : RZ.iZipA K t σ H R := q
theorem r_zipL {R : It → Hp → Prop} (h1 : SqL K H a xs) (h2 : SqL K H b ys) (q : R (Itz K a b) H) : uZip K [.ref a, .ref b] H R := ⟨a, b, xs, ys, rfl, .inl ⟨h1, h2, q⟩⟩
theorem r_zipT {R : It → Hp → Prop} (h1 : SqT K H a xs) (h2 : SqT K H b ys) (q : R (RZ.ItzT K a b) H) : uZip K [.ref a, .ref b] H R := ⟨a, b, xs, ys, rfl, .inr ⟨h1, h2, q⟩⟩

/-- a for by its invariant -/
theorem for_wk (w : Wk J n src item) (Pv : Nat → St → Hp → Prop) (h0 : Pv 0 σ H) (hsrc : ∀ i σ H, i ≤ n → Pv i σ H → src H)
    (hs : ∀ i x σ H H', i < n → Pv i σ H → item i H x H' → g x σ H' fun σ2 H2 => tb ⟨Pv (i + 1), rt, nx, Pv (i + 1)⟩ σ2 H2) (hd : ∀ σ H, Pv n σ H → nx σ H) :
    ForW J g tb ⟨nx, rt, bk, ct⟩ σ H := by
  refine ⟨fun i m σ H => m = n - i ∧ i ≤ n ∧ Pv i σ H, ⟨n, by simp, Nat.zero_le _, h0⟩, ?_⟩
  rintro i m σ H ⟨rfl, hi, p⟩
  have q := hsrc i σ H hi p
  by_cases hlt : i < n
  · refine .inr ⟨w.go i H q hlt, Pv (i + 1), fun σ' H' p' => ⟨n - (i + 1), by omega, rfl, hlt, p'⟩, fun x H' y => ?_⟩
    exact hs i x σ H H' hlt p (w.yld i H x H' q y)
  · have e : i = n := by omega
    subst e
    exact .inl ⟨w.stop i H q (Nat.le_refl _), hd σ H p⟩
theorem lc_wk (w : Wk J n src item) (Pv : Addr → Nat → Hp → Prop) (h0 : ∀ D, H D = none → Pv D 0 (upd H D (.lst []))) (hsrc : ∀ D i H, i ≤ n → Pv D i H → src H)
    (hs : ∀ D i x H2 H', H D = none → i < n → Pv D i H2 → item i H2 x H' → g x (wipe σ vs) H' fun σ2 H2 => wipe σ2 vs = wipe σ vs ∧ tt σ2 H2 fun b H3 =>
      if b = true then te σ2 H3 fun y H4 => ∃ acc, H4 D = some (.lst acc) ∧ acc.length < sizeLine ∧ Pv D (i + 1) (upd H4 D (.lst (acc ++ [y]))) else Pv D (i + 1) H3)
    (hd : ∀ D H', H D = none → Pv D n H' → Q (.ref D) H') : LcW J g tt te vs σ H Q := by
  intro D hD
  refine ⟨fun i m H => m = n - i ∧ i ≤ n ∧ Pv D i H, ⟨n, by simp, Nat.zero_le _, h0 D hD⟩, ?_⟩
  rintro i m H2 ⟨rfl, hi, p⟩
  have q := hsrc D i H2 hi p
  by_cases hlt : i < n
  · refine .inr ⟨w.go i H2 q hlt, Pv D (i + 1), fun H' p' => ⟨n - (i + 1), by omega, rfl, hlt, p'⟩, fun x H' y => ?_⟩
    exact hs D i x H2 H' hD hlt p (w.yld i H2 x H' q y)
  · have e : i = n := by omega
    subst e
    exact .inl ⟨w.stop i H2 q (Nat.le_refl _), hd D H2 hD p⟩
theorem wipe_one {j : Nat} {x : V} : wipe ((wipe σ [j]).set j (some x)) [j] = wipe σ [j] := by
  simp [wipe, List.set_set]
theorem take_snoc {α : Type} : ∀ {l : List α} {i : Nat} {x : α}, l[i]? = some x → l.take (i + 1) = l.take i ++ [x]
  | [], i, x, h => by simp at h
  | a :: l, 0, x, h => by
    have e : a = x := Option.some.inj h
    subst e; rfl
  | a :: l, i + 1, x, h => by
    have ih := take_snoc (l := l) (i := i) (x := x) h
    show a :: l.take (i + 1) = a :: l.take i ++ [x]
    rw [ih]; rfl
/-- a comprehension over one name whose element and test are pure: known values -/
theorem lc_pure {j : Nat} (w : Wk J xs.length src (fun i H x H' => H' = H ∧ xs[i]? = some x)) (hsrc : ∀ H', Same H H' → src H') (hn : xs.length ≤ 16777216) (f : V → Bool) (v : V → V)
    (ht : ∀ x H2 (R : Bool → Hp → Prop), x ∈ xs → Same H H2 → (∀ H3, Same H2 H3 → R (f x) H3) → tt ((wipe σ [j]).set j (some x)) H2 R)
    (he : ∀ x H2 (R : VK), x ∈ xs → f x = true → Same H H2 → (∀ H3, Same H2 H3 → R (v x) H3) → te ((wipe σ [j]).set j (some x)) H2 R)
    (q : ∀ D H', H D = none → Same H H' → H' D = some (.lst ((xs.filter f).map v)) → Q (.ref D) H') : LcW J (gName j) tt te [j] σ H Q := by
  refine lc_wk w (fun D i H' => H D = none ∧ Same H H' ∧ H' D = some (.lst (((xs.take i).filter f).map v))) (fun D hD => ⟨hD, fun b o e => by rw [upd_ne (ne_of_none e hD)]; exact e, by simp [upd_same]⟩)
    (fun D i H' _ p => hsrc H' p.2.1) ?_ (fun D H' hD p => q D H' hD p.2.1 (by have := p.2.2; rw [List.take_length] at this; exact this))
  rintro D i x H2 H' hD hi ⟨p1, p2, p3⟩ ⟨rfl, hx⟩
  have hm : x ∈ xs := List.mem_of_getElem? hx
  show wipe ((wipe σ [j]).set j (some x)) [j] = wipe σ [j] ∧ tt ((wipe σ [j]).set j (some x)) H' _
  refine ⟨wipe_one, ht x H' _ hm p2 fun H3 e3 => ?_⟩
  have t3 := take_snoc hx
  have hl : ((xs.take i).filter f).length ≤ i := Nat.le_trans (List.length_filter_le _ _) (by simp; omega)
  cases hf : f x with
  | true =>
    refine i_T (he x H3 _ hm hf (p2.trans e3) fun H4 e4 => ⟨_, e4 _ _ (e3 _ _ p3), by rw [List.length_map, sizeLine_eq]; omega, hD, fun b o e => ?_, ?_⟩)
    · rw [upd_ne (ne_of_none e hD)]; exact e4 _ _ (e3 _ _ (p2 _ _ e))
    · rw [upd_same, t3, List.filter_append, List.map_append]
      simp [hf]
  | false =>
    refine i_F ⟨hD, p2.trans e3, ?_⟩
    rw [t3, List.filter_append, List.map_append]
    simp [hf]
    exact e3 _ _ p3
/-- .. whose elements are told by a relation that stays where tuples stay -/
theorem lc_rel {j : Nat} (w : Wk J xs.length src (fun i H x H' => H' = H ∧ xs[i]? = some x)) (hsrc : ∀ H', Same H H' → src H') (hn : xs.length ≤ 16777216) (f : V → Bool) (R : Hp → V → V → Prop) (hR : ∀ H H' x y, TExt H H' → R H x y → R H' x y)
    (ht : ∀ x H2 (S : Bool → Hp → Prop), x ∈ xs → Same H H2 → (∀ H3, Same H2 H3 → S (f x) H3) → tt ((wipe σ [j]).set j (some x)) H2 S)
    (he : ∀ x H2 (S : VK), x ∈ xs → f x = true → Same H H2 → (∀ y H3, Same H2 H3 → R H3 x y → S y H3) → te ((wipe σ [j]).set j (some x)) H2 S)
    (q : ∀ D H' ys, H D = none → Same H H' → H' D = some (.lst ys) → Paired (R H') (xs.filter f) ys → Q (.ref D) H') : LcW J (gName j) tt te [j] σ H Q := by
  refine lc_wk w (fun D i H' => H D = none ∧ Same H H' ∧ ∃ ys, H' D = some (.lst ys) ∧ Paired (R H') ((xs.take i).filter f) ys) (fun D hD => ⟨hD, fun b o e => by rw [upd_ne (ne_of_none e hD)]; exact e, [], by simp [upd_same], by simpa using Paired.nil⟩)
    (fun D i H' _ p => hsrc H' p.2.1) ?_ (fun D H' hD p => by obtain ⟨p1, p2, ys, p3, p4⟩ := p; rw [List.take_length] at p4; exact q D H' ys hD p2 p3 p4)
  rintro D i x H2 H' hD hi ⟨p1, p2, ys, p3, p4⟩ ⟨rfl, hx⟩
  have hm : x ∈ xs := List.mem_of_getElem? hx
  show wipe ((wipe σ [j]).set j (some x)) [j] = wipe σ [j] ∧ tt ((wipe σ [j]).set j (some x)) H' _
  refine ⟨wipe_one, ht x H' _ hm p2 fun H3 e3 => ?_⟩
  have t3 := take_snoc hx
  have hl : ((xs.take i).filter f).length ≤ i := Nat.le_trans (List.length_filter_le _ _) (by simp; omega)
  have hl2 := p4.length
  cases hf : f x with
  | true =>
    refine i_T (he x H3 _ hm hf (p2.trans e3) fun y H4 e4 hy => ⟨ys, e4 _ _ (e3 _ _ p3), by rw [sizeLine_eq]; omega, hD, fun b o e => ?_, ys ++ [y], upd_same, ?_⟩)
    · rw [upd_ne (ne_of_none e hD)]; exact e4 _ _ (e3 _ _ (p2 _ _ e))
    · have te2 : TExt H4 (upd H4 D (.lst (ys ++ [y]))) := TExt.lst Keep.at_ (e4 _ _ (e3 _ _ p3))
      rw [t3, List.filter_append]
      simp only [List.filter_cons, hf, List.filter_nil, if_true]
      exact (Paired.mapP p4 fun u z r => hR _ _ _ _ ((TExt.of_same (e3.trans e4)).trans te2) r).snoc (hR _ _ _ _ te2 hy)
  | false =>
    refine i_F ⟨hD, p2.trans e3, ys, e3 _ _ p3, ?_⟩
    rw [t3, List.filter_append]
    simp [hf]
    exact Paired.mapP p4 fun u z r => hR _ _ _ _ (TExt.of_same e3) r
theorem filter_all {α : Type} (l : List α) : l.filter (fun _ => true) = l := List.filter_eq_self.mpr (by simp)
theorem lc_map {j : Nat} (w : Wk J xs.length src (fun i H x H' => H' = H ∧ xs[i]? = some x)) (hsrc : ∀ H', Same H H' → src H') (hn : xs.length ≤ 16777216) (v : V → V)
    (he : ∀ x H2 (R : VK), x ∈ xs → Same H H2 → (∀ H3, Same H2 H3 → R (v x) H3) → te ((wipe σ [j]).set j (some x)) H2 R)
    (q : ∀ D H', H D = none → Same H H' → H' D = some (.lst (xs.map v)) → Q (.ref D) H') : LcW J (gName j) tYes te [j] σ H Q :=
  lc_pure w hsrc hn (fun _ => true) v (fun x H2 R _ _ k => k H2 (Same.refl H2)) (fun x H2 R hx _ e k => he x H2 R hx e k) (fun D H' hD e hl => q D H' hD e (by rw [filter_all] at hl; exact hl))
theorem lc_mapR {j : Nat} (w : Wk J xs.length src (fun i H x H' => H' = H ∧ xs[i]? = some x)) (hsrc : ∀ H', Same H H' → src H') (hn : xs.length ≤ 16777216) (R : Hp → V → V → Prop) (hR : ∀ H H' x y, TExt H H' → R H x y → R H' x y)
    (he : ∀ x H2 (S : VK), x ∈ xs → Same H H2 → (∀ y H3, Same H2 H3 → R H3 x y → S y H3) → te ((wipe σ [j]).set j (some x)) H2 S)
    (q : ∀ D H' ys, H D = none → Same H H' → H' D = some (.lst ys) → Paired (R H') xs ys → Q (.ref D) H') : LcW J (gName j) tYes te [j] σ H Q :=
  lc_rel w hsrc hn (fun _ => true) R hR (fun x H2 S _ _ k => k H2 (Same.refl H2)) (fun x H2 S hx _ e k => he x H2 S hx e k) (fun D H' ys hD e hl hp => q D H' ys hD e hl (by rw [filter_all] at hp; exact hp))
end
/-! ### more steps -/
section
variable {K : PySem.W.Frag} {H H' : Hp} {Q : VK} {p q a b : Addr} {F : Addr → Prop} {xs ys : List V} {σ : St} {te : TE} {tl th : TO} {lo hi : Option Int} {v : V}
theorem r_sl {r : V → Option Int → Option Int → Hp → VK → Prop} (q : te σ H fun x H1 => tl σ H1 fun l H2 => th σ H2 fun u H3 => r x l u H3 Q) : tSl r te tl th σ H Q := q
theorem r_nopart {R : Option Int → Hp → Prop} (q : R none H) : tNoPart σ H R := q
def uPart (x : V) (H : Hp) (R : Option Int → Hp → Prop) : Prop := ∃ i, x = .int i ∧ R (some i) H
theorem r_part {R : Option Int → Hp → Prop} (q : te σ H fun x H1 => uPart x H1 R) : tPart te σ H R := q
theorem r_parti {i : Int} {R : Option Int → Hp → Prop} (q : R (some i) H) : uPart (.int i) H R := ⟨i, rfl, q⟩
theorem r_sll (h : SqL K H a xs) (q : ∀ p H', H p = none → Same H H' → H' p = some (.lst (cutV xs lo hi)) → Q (.ref p) H') : rSlL K (.ref a) lo hi H Q :=
  ⟨a, xs, rfl, h, fun p hp => q p _ hp (Keep.same (Keep.new hp)) upd_same⟩
theorem cutV_from {xs : List V} {k : Nat} : cutV xs (some (k : Int)) none = xs.drop k := by
  unfold cutV
  rw [HT.sIx_nat, HT.sIx_none]
  by_cases h : k ≤ xs.length
  · rw [Nat.min_eq_left h, List.take_of_length_le (by simp)]
  · rw [Nat.min_eq_right (by omega), List.drop_of_length_le (Nat.le_refl _), List.drop_of_length_le (by omega)]
    simp
theorem cutV_to {xs : List V} {k : Nat} : cutV xs none (some (k : Int)) = xs.take k := by
  unfold cutV
  rw [HT.sIx_nat, HT.sIx_none]
  simp only [List.drop_zero, Nat.sub_zero]
  by_cases h : k ≤ xs.length
  · rw [Nat.min_eq_left h]
  · rw [Nat.min_eq_right (by omega), List.take_of_length_le (Nat.le_refl _), List.take_of_length_le (by omega)]
theorem cutV_init {xs : List V} {x : V} : cutV (xs ++ [x]) none (some (-1)) = xs := by
  unfold cutV
  simp [HT.sIx]
  rw [show (-1 + ((xs.length : Int) + 1)).toNat = xs.length by omega, List.take_left']
  rfl
theorem r_sla (h : SqT K H a xs) (q : ∀ p H', Same H H' → SqT K H' p (cutV xs lo hi) → Q (.ref p) H') : rSlA K (.ref a) lo hi H Q := by
  refine ⟨a, xs, rfl, h, fun e => q a H (Same.refl H) ?_, fun _ p hp => q p _ (Keep.same (Keep.new hp)) (SqT.of upd_same)⟩
  unfold cutV
  rw [e.1, e.2]
  simpa using h
theorem r_cat (h1 : H a = some (.lst xs)) (h2 : H b = some (.lst ys)) (hz : xs.length + ys.length ≤ sizeLine) (q : ∀ p H', H p = none → Same H H' → H' p = some (.lst (xs ++ ys)) → Q (.ref p) H') : rCat (.ref a) (.ref b) H Q :=
  ⟨a, b, xs, ys, rfl, rfl, h1, h2, hz, fun p hp => q p _ hp (Keep.same (Keep.new hp)) upd_same⟩
theorem r_catA (h1 : SqT K H a xs) (h2 : SqT K H b ys) (hz : xs.length + ys.length ≤ sizeLine) (q : ∀ p H', Same H H' → SqT K H' p (xs ++ ys) → Q (.ref p) H') : rCatA K (.ref a) (.ref b) H Q := by
  refine ⟨a, b, xs, ys, rfl, rfl, h1, h2, hz, fun e => ?_, fun _ e => ?_, fun _ _ p hp => q p _ (Keep.same (Keep.new hp)) (SqT.of upd_same)⟩
  · subst e
    exact q b H (Same.refl H) (by simpa using h2)
  · subst e
    exact q a H (Same.refl H) (by simpa using h1)
def uBM (K : PySem.W.Frag) (T : String) (r : V → List V → Hp → VK → Prop) (t : TA) (σ : St) (x : V) (H : Hp) (Q : VK) : Prop := tyV K T x H ∧ t σ H fun xs H2 => r x xs H2 Q
theorem r_bm {T : String} {r : V → List V → Hp → VK → Prop} {t : TA} (q : te σ H fun x H1 => uBM K T r t σ x H1 Q) : tBM K T r te t σ H Q := q
def uBM0 (K : PySem.W.Frag) (T : String) (r : V → List V → Hp → VK → Prop) (x : V) (H : Hp) (Q : VK) : Prop := tyV K T x H ∧ r x [] H Q
theorem r_bm0 {T : String} {r : V → List V → Hp → VK → Prop} (q : te σ H fun x H1 => uBM0 K T r x H1 Q) : tBM0 K T r te σ H Q := q
theorem r_bml {r : V → List V → Hp → VK → Prop} {t : TA} (h : SqL K H a xs) (q : t σ H fun vs H2 => r (.ref a) vs H2 Q) : uBM K "list" r t σ (.ref a) H Q := ⟨.inl ⟨rfl, _, h⟩, q⟩
theorem r_bm0l {r : V → List V → Hp → VK → Prop} (h : SqL K H a xs) (q : r (.ref a) [] H Q) : uBM0 K "list" r (.ref a) H Q := ⟨.inl ⟨rfl, _, h⟩, q⟩
def uRevL (K : PySem.W.Frag) (x : V) (H : Hp) (Q : VK) : Prop := ∃ a xs, x = .ref a ∧ SqL K H a xs ∧ ∀ p, H p = none → Q (.ref p) (upd H p (.lst xs.reverse))
theorem r_revL (q : te σ H fun x H1 => uRevL K x H1 Q) : tRevL K te σ H Q := q
theorem r_revl (h : SqL K H a xs) (q : ∀ p H', H p = none → Same H H' → H' p = some (.lst xs.reverse) → Q (.ref p) H') : uRevL K (.ref a) H Q := ⟨a, xs, rfl, h, fun p hp => q p _ hp (Keep.same (Keep.new hp)) upd_same⟩
theorem r_reverse (h : H a = some (.lst xs)) (q : ∀ H', Keep (At a) H H' → H' a = some (.lst xs.reverse) → Q .non H') : rReverse (.ref a) [] H Q := ⟨a, xs, rfl, rfl, h, q _ Keep.at_ upd_same⟩
theorem r_append (h : H a = some (.lst xs)) (hz : xs.length < sizeLine) (q : ∀ H', Keep (At a) H H' → H' a = some (.lst (xs ++ [v])) → Q .non H') : rAppend (.ref a) [v] H Q := ⟨a, xs, v, rfl, rfl, h, hz, q _ Keep.at_ upd_same⟩
theorem r_extend (h : H a = some (.lst xs)) (h2 : H b = some (.lst ys)) (hz : xs.length + ys.length ≤ sizeLine) (q : ∀ H', Keep (At a) H H' → H' a = some (.lst (xs ++ ys)) → Q .non H') : rExtend (.ref a) [.ref b] H Q := ⟨a, b, xs, ys, rfl, rfl, h, h2, hz, q _ Keep.at_ upd_same⟩
theorem r_sortedI {ns : List Int} (h : SqL K H a (ns.map V.int)) (q : ∀ (ms : List Int) p H', ms.Perm ns → ms.Pairwise (· ≤ ·) → H p = none → Same H H' → H' p = some (.lst (ms.map V.int)) → Q (.ref p) H') : rSortedI K [.ref a] H Q :=
  ⟨a, ns, rfl, h, fun ms p h1 h2 h3 => q ms p _ h1 h2 h3 (Keep.same (Keep.new h3)) upd_same⟩
theorem dpAll_ints (K : PySem.W.Frag) (H : Hp) : ∀ ns : List Int, DpAll K H (ns.map V.int) (ns.map PyData.int)
  | [] => .nil
  | n :: ns => .cons (.int n) (dpAll_ints K H ns)
theorem dpAll_len {K : PySem.W.Frag} {H : Hp} : ∀ {vs : List V} {ds : List PyData}, DpAll K H vs ds → vs.length = ds.length
  | _, _, .nil => rfl
  | _, _, .cons _ h => by simp [dpAll_len h]
theorem dpAll_get {K : PySem.W.Frag} {H : Hp} : ∀ {vs : List V} {ds : List PyData}, DpAll K H vs ds → ∀ x ∈ vs, ∃ d, Dp K H x d
  | _, _, .cons h1 h2, x, hx => by
    rcases List.mem_cons.mp hx with rfl | hx
    · exact ⟨_, h1⟩
    · exact dpAll_get h2 x hx
theorem r_ix01 {x y : Int} {b : Bool} (h : SqL K H p [.int x, .int y]) (q : ∀ z, (z = x ∧ b = false) ∨ (z = y ∧ b = true) → Q (.int z) H) : rIx K (.ref p) (.int (if b = true then 1 else 0)) H Q := by
  cases b with
  | true => exact r_ixl h rfl (q y (.inr ⟨rfl, rfl⟩))
  | false => exact r_ixl h rfl (q x (.inl ⟨rfl, rfl⟩))
theorem SqL.keep (h : SqL K H a xs) (k : Keep F H H') (n : ¬ F a) : SqL K H' a xs := by
  rcases h with (h | ⟨o, h⟩) | h
  · exact .inl (.inl (k a _ h n))
  · exact .inl (.inr ⟨o, k a _ h n⟩)
  · exact .inr h
end
/-! ### data that == is told of: small depth -/
structure Shp (n : Nat) (d : PyData) : Prop where
  c : d.canLay0 = true
  d : d.depth ≤ n
theorem Shp.ok {n : Nat} {d : PyData} (h : Shp n d) (hn : n ≤ 64 := by decide) : SeqAt.shaped d = true := by
  unfold SeqAt.shaped
  rw [h.c, Bool.true_and]
  exact decide_eq_true (Nat.le_trans h.d hn)
theorem Shp.int {n : Nat} (i : Int) : Shp n (.int i) := ⟨by simp [PyData.canLay0], by simp [PyData.depth]⟩
theorem Shp.bool {n : Nat} (i : Bool) : Shp n (.bool i) := ⟨by simp [PyData.canLay0], by simp [PyData.depth]⟩
theorem Shp.none {n : Nat} : Shp n .none := ⟨by simp [PyData.canLay0], by simp [PyData.depth]⟩
theorem shp_all {n : Nat} : ∀ {ds : List PyData}, (∀ d ∈ ds, Shp n d) → PyData.canLayAll0 ds = true ∧ PyData.depthAll ds ≤ n
  | [], _ => ⟨by simp [PyData.canLayAll0], by simp [PyData.depthAll]⟩
  | x :: xs, h => by
    have h1 := h x (List.mem_cons_self ..)
    have h2 := shp_all fun d hd => h d (List.mem_cons_of_mem _ hd)
    exact ⟨by simp [PyData.canLayAll0, h1.c, h2.1], by simp only [PyData.depthAll]; exact Nat.max_le.mpr ⟨h1.d, h2.2⟩⟩
theorem Shp.tuple {n : Nat} {ds : List PyData} (h : ∀ d ∈ ds, Shp n d) : Shp (n + 1) (.tuple ds) := ⟨by simp [PyData.canLay0, (shp_all h).1], by have := (shp_all h).2; simp [PyData.depth]; omega⟩
theorem Shp.list {n : Nat} {ds : List PyData} (h : ∀ d ∈ ds, Shp n d) : Shp (n + 1) (.list ds) := ⟨by simp [PyData.canLay0, (shp_all h).1], by have := (shp_all h).2; simp [PyData.depth]; omega⟩
theorem Shp.tupleM {α : Type} {n : Nat} {as : List α} {f : α → PyData} (h : ∀ c, Shp n (f c)) : Shp (n + 1) (.tuple (as.map f)) := Shp.tuple fun d hd => by
  obtain ⟨c, _, rfl⟩ := List.mem_map.mp hd
  exact h c
theorem Shp.listM {α : Type} {n : Nat} {as : List α} {f : α → PyData} (h : ∀ c, Shp n (f c)) : Shp (n + 1) (.list (as.map f)) := Shp.list fun d hd => by
  obtain ⟨c, _, rfl⟩ := List.mem_map.mp hd
  exact h c
theorem Shp.t2 {n : Nat} {a b : PyData} (ha : Shp n a) (hb : Shp n b) : Shp (n + 1) (.tuple [a, b]) := Shp.tuple (by simp; exact ⟨ha, hb⟩)
theorem Shp.t3 {n : Nat} {a b c : PyData} (ha : Shp n a) (hb : Shp n b) (hc : Shp n c) : Shp (n + 1) (.tuple [a, b, c]) := Shp.tuple (by simp; exact ⟨ha, hb, hc⟩)
theorem Shp.t4 {n : Nat} {a b c d : PyData} (ha : Shp n a) (hb : Shp n b) (hc : Shp n c) (hd : Shp n d) : Shp (n + 1) (.tuple [a, b, c, d]) := Shp.tuple (by simp; exact ⟨ha, hb, hc, hd⟩)
/-! ### data in a row: walks and comprehensions over it -/
section
variable {K : PySem.W.Frag} {σ : St} {H H' : Hp} {Q : VK} {te : TE} {tt : TT} {g : TG} {vs : List Nat} {J : It} {src : Hp → Prop} {item : Nat → Hp → V → Hp → Prop} {a : Addr}
theorem dpAll_at : ∀ {ws : List V} {ds : List PyData}, DpAll K H ws ds → ∀ {i : Nat} {x : V}, ws[i]? = some x → ∃ d, ds[i]? = some d ∧ Dp K H x d
  | _, _, .nil, i, x, h => by simp at h
  | _, _, .cons h1 h2, 0, x, h => by
    have e := Option.some.inj h
    subst e
    exact ⟨_, rfl, h1⟩
  | _, _, .cons h1 h2, i + 1, x, h => dpAll_at h2 (i := i) (x := x) h
theorem dpAll_map_at {α : Type} {f : α → PyData} {as : List α} {ws : List V} (h : DpAll K H ws (as.map f)) {i : Nat} {x : V} (e : ws[i]? = some x) : ∃ c, as[i]? = some c ∧ Dp K H x (f c) := by
  obtain ⟨d, h1, h2⟩ := dpAll_at h e
  rw [List.getElem?_map] at h1
  obtain ⟨c, h3, rfl⟩ := Option.map_eq_some_iff.mp h1
  exact ⟨c, h3, h2⟩
theorem same_at {H H1 H2 : Hp} {f : Addr} (s : Same H H1) (hf : H f = none) (k : Keep (At f) H1 H2) : Same H H2 := fun b o e => k b o (s b o e) (ne_of_none e hf)
theorem dpAll_drop : ∀ {ws : List V} {ds : List PyData} (k : Nat), DpAll K H ws ds → DpAll K H (ws.drop k) (ds.drop k)
  | _, _, 0, h => h
  | _, _, k + 1, .nil => .nil
  | _, _, k + 1, .cons h1 h2 => dpAll_drop k h2
theorem dpAll_take : ∀ {ws : List V} {ds : List PyData} (k : Nat), DpAll K H ws ds → DpAll K H (ws.take k) (ds.take k)
  | _, _, 0, h => by simpa using DpAll.nil
  | _, _, k + 1, .nil => .nil
  | _, _, k + 1, .cons h1 h2 => .cons h1 (dpAll_take k h2)
theorem dpAll_snoc : ∀ {ws : List V} {ds : List PyData} {x : V} {d : PyData}, DpAll K H ws ds → Dp K H x d → DpAll K H (ws ++ [x]) (ds ++ [d])
  | _, _, _, _, .nil, h => .cons h .nil
  | _, _, _, _, .cons h1 h2, h => .cons h1 (dpAll_snoc h2 h)
theorem dpAll_app : ∀ {ws : List V} {ds : List PyData} {ws' : List V} {ds' : List PyData}, DpAll K H ws ds → DpAll K H ws' ds' → DpAll K H (ws ++ ws') (ds ++ ds')
  | _, _, _, _, .nil, h => h
  | _, _, _, _, .cons h1 h2, h => .cons h1 (dpAll_app h2 h)
theorem paired_dp {α : Type} {f : α → PyData} : ∀ {as : List α} {ys : List V}, Paired (fun c y => Dp K H y (f c)) as ys → DpAll K H ys (as.map f)
  | _, _, .nil => .nil
  | _, _, .cons h1 h2 => .cons h1 (paired_dp h2)
theorem dp_tup {v : V} {ds : List PyData} (h : Dp K H v (.tuple ds)) : ∃ p ws, v = .ref p ∧ SqT K H p ws ∧ DpAll K H ws ds := by
  cases h with
  | tup hs ha => exact ⟨_, _, rfl, hs, ha⟩
theorem dp_lst {v : V} {ds : List PyData} (h : Dp K H v (.list ds)) : ∃ p ws, v = .ref p ∧ SqL K H p ws ∧ DpAll K H ws ds := by
  cases h with
  | lst hs ha => exact ⟨_, _, rfl, hs, ha⟩
theorem dp_int {v : V} {i : Int} (h : Dp K H v (.int i)) : v = .int i := by cases h; rfl
theorem dp_non {v : V} (h : Dp K H v .none) : v = .non := by cases h; rfl
theorem dp_bool {v : V} {b : Bool} (h : Dp K H v (.bool b)) : v = .bl b := by cases h; rfl
theorem dp_str {v : V} {z : Str} (h : Dp K H v (.str z)) : v = .str z := by cases h; rfl
theorem dpAll_trues {α : Type} : ∀ {as : List α} {ws : List V}, DpAll K H ws (as.map fun _ => PyData.bool true) → ∀ v ∈ ws, v = V.bl true
  | [], _, .nil, v, hv => by simp at hv
  | a :: as, _, .cons h1 h2, v, hv => by
    rcases List.mem_cons.mp hv with rfl | hv
    · exact dp_bool h1
    · exact dpAll_trues h2 v hv
theorem dpAll_all_ints : ∀ {ws : List V} {ns : List Int}, DpAll K H ws (ns.map PyData.int) → ws = ns.map V.int
  | _, [], .nil => rfl
  | _, n :: ns, .cons h1 h2 => by rw [dp_int h1, dpAll_all_ints h2]; rfl
theorem dp_ints {v : V} {ns : List Int} (h : Dp K H v (.tuple (ns.map PyData.int))) : ∃ p, v = .ref p ∧ SqT K H p (ns.map V.int) := by
  obtain ⟨p, ws, rfl, h1, h2⟩ := dp_tup h
  rw [dpAll_all_ints h2] at h1
  exact ⟨p, rfl, h1⟩
theorem mapP_mono {α : Type} {R S : α → V → Prop} {as : List α} {ys : List V} (h : Paired R as ys) (k : ∀ c y, R c y → S c y) : Paired S as ys := Paired.mapP h k
/-- a comprehension over whatever is walked: each kept item's element is told by R, which stays where tuples stay -/
theorem lc_gen {α : Type} (as : List α) (It1 : α → V → Hp → Prop) (w : Wk J as.length src item) (hit : ∀ i H x H', i < as.length → item i H x H' → ∃ c, as[i]? = some c ∧ Same H H' ∧ It1 c x H') (hsrc : ∀ H', Same H H' → src H')
    (hn : as.length ≤ 16777216) (f : α → Bool) (R : Hp → α → V → Prop) (hR : ∀ H H' c y, TExt H H' → R H c y → R H' c y)
    (hs : ∀ c x H2 (S : VK) (N : Hp → Prop), c ∈ as → Same H H2 → It1 c x H2 → (f c = true → ∀ y H3, Same H2 H3 → R H3 c y → S y H3) → (f c = false → ∀ H3, Same H2 H3 → N H3) →
      g x (wipe σ vs) H2 fun σ2 H3 => wipe σ2 vs = wipe σ vs ∧ tt σ2 H3 fun b H4 => if b = true then te σ2 H4 S else N H4)
    (q : ∀ D H' ys, H D = none → Same H H' → H' D = some (.lst ys) → Paired (R H') (as.filter f) ys → Q (.ref D) H') : LcW J g tt te vs σ H Q := by
  refine lc_wk w (fun D i H' => H D = none ∧ Same H H' ∧ ∃ ys, H' D = some (.lst ys) ∧ Paired (R H') ((as.take i).filter f) ys) (fun D hD => ⟨hD, fun b o e => by rw [upd_ne (ne_of_none e hD)]; exact e, [], by simp [upd_same], by simpa using Paired.nil⟩)
    (fun D i H' _ p => hsrc H' p.2.1) ?_ (fun D H' hD p => by obtain ⟨p1, p2, ys, p3, p4⟩ := p; rw [List.take_length] at p4; exact q D H' ys hD p2 p3 p4)
  rintro D i x H2 H' hD hi ⟨p1, p2, ys, p3, p4⟩ hx
  obtain ⟨c, hc, s1, hI⟩ := hit i H2 x H' hi hx
  have t3 := take_snoc hc
  have hl : ((as.take i).filter f).length ≤ i := Nat.le_trans (List.length_filter_le _ _) (by simp; omega)
  have hl2 := p4.length
  have hm : c ∈ as := List.mem_of_getElem? hc
  refine hs c x H' _ _ hm (p2.trans s1) hI (fun hf y H4 e4 hy => ?_) (fun hf H3 e3 => ?_)
  · refine ⟨ys, e4 _ _ (s1 _ _ p3), by rw [sizeLine_eq]; omega, hD, fun b o e => ?_, ys ++ [y], upd_same, ?_⟩
    · rw [upd_ne (ne_of_none e hD)]; exact e4 _ _ (s1 _ _ (p2 _ _ e))
    · have te2 : TExt H4 (upd H4 D (.lst (ys ++ [y]))) := TExt.lst Keep.at_ (e4 _ _ (s1 _ _ p3))
      rw [t3, List.filter_append]
      simp only [List.filter_cons, hf, List.filter_nil, if_true]
      exact (Paired.mapP p4 fun u z r => hR _ _ _ _ ((TExt.of_same (s1.trans e4)).trans te2) r).snoc (hR _ _ _ _ te2 hy)
  · refine ⟨hD, p2.trans (s1.trans e3), ys, e3 _ _ (s1 _ _ p3), ?_⟩
    rw [t3, List.filter_append]
    simp [hf]
    exact Paired.mapP p4 fun u z r => hR _ _ _ _ (TExt.of_same (s1.trans e3)) r
/-- over range(n) -/
theorem lc_rngD {n : Nat} {lo : Int} (hn : n ≤ 16777216) (f : Nat → Bool) (fx : Nat → PyData) (hi : ∀ c, imm (fx c) = true)
    (hs : ∀ (c : Nat) H2 (S : VK) (N : Hp → Prop), c < n → Same H H2 → (f c = true → ∀ y H3, Same H2 H3 → Dp K H3 y (fx c) → S y H3) → (f c = false → ∀ H3, Same H2 H3 → N H3) →
      g (.int (lo + c)) (wipe σ vs) H2 fun σ2 H3 => wipe σ2 vs = wipe σ vs ∧ tt σ2 H3 fun b H4 => if b = true then te σ2 H4 S else N H4)
    (q : ∀ D H' ys, H D = none → Same H H' → H' D = some (.lst ys) → DpAll K H' ys (((List.range n).filter f).map fx) → Q (.ref D) H') : LcW (Itr lo n) g tt te vs σ H Q := by
  have w : Wk (Itr lo n) (List.range n).length (fun _ => True) (fun i H x H' => H' = H ∧ x = .int (lo + i)) := by
    rw [List.length_range]
    exact wk_rng
  refine lc_gen (List.range n) (fun c x H => x = .int (lo + c)) w (fun i H x H' hi h => ⟨i, List.getElem?_range (by simpa using hi), by rw [h.1]; exact Same.refl _, h.2⟩) (fun _ _ => trivial) (by simpa using hn) f (fun H c y => Dp K H y (fx c)) (fun H H' c y e h => Dp.text e _ _ (hi c) h)
    (fun c x H2 S N hc s hx k1 k2 => ?_) (fun D H' ys hD s e p => q D H' ys hD s e (paired_dp p))
  subst hx
  exact hs c H2 S N (by simpa using hc) s k1 k2
/-- over range(n), one object p (a pot) being changed in each turn -/
theorem lc_rngK {n : Nat} {lo : Int} {p : Addr} {te : TE} {j : Nat} (I : Hp → Prop) (h0 : I H) (hne : ∀ D, H D = none → D ≠ p) (hI : ∀ H1 H2 : Hp, I H1 → H2 p = H1 p → I H2) (hT : ∀ H1 H2, I H1 → Keep (At p) H1 H2 → TExt H1 H2)
    (hn : n ≤ 16777216) (R : Hp → Nat → V → Prop) (hR : ∀ H H' i y, TExt H H' → R H i y → R H' i y)
    (hs : ∀ (i : Nat) H2 (S : VK), i < n → Keep (At p) H H2 → I H2 → (∀ y H3, Keep (At p) H2 H3 → I H3 → R H3 i y → S y H3) → te ((wipe σ [j]).set j (some (.int (lo + i)))) H2 S)
    (q : ∀ D H' ys, H D = none → Keep (At p) H H' → I H' → H' D = some (.lst ys) → Paired (R H') (List.range n) ys → Q (.ref D) H') : LcW (Itr lo n) (gName j) tYes te [j] σ H Q := by
  refine lc_wk wk_rng (fun D i H' => H D = none ∧ Keep (At p) H H' ∧ I H' ∧ ∃ ys, H' D = some (.lst ys) ∧ Paired (R H') (List.range i) ys)
    (fun D hD => ⟨hD, fun b o e _ => by rw [upd_ne (ne_of_none e hD)]; exact e, hI _ _ h0 (by rw [upd_ne (Ne.symm (hne D hD))]), [], by simp [upd_same], by simpa using Paired.nil⟩)
    (fun D i H' _ p => trivial) ?_ (fun D H' hD p => by obtain ⟨p1, p2, p3, ys, p4, p5⟩ := p; exact q D H' ys hD p2 p3 p4 p5)
  rintro D i x H2 H' hD hi ⟨p1, p2, p3, ys, p4, p5⟩ ⟨rfl, rfl⟩
  show wipe ((wipe σ [j]).set j _) [j] = wipe σ [j] ∧ _
  refine ⟨wipe_one, ?_⟩
  refine r_yes (i_T (hs i H' _ hi p2 p3 fun y H3 k3 i3 r3 => ⟨ys, k3 _ _ p4 (hne D hD), by rw [sizeLine_eq, ← p5.length, List.length_range]; omega, hD, ?_, hI _ _ i3 (by rw [upd_ne (Ne.symm (hne D hD))]), ys ++ [y], upd_same, ?_⟩))
  · exact (p2.trans k3).free hD
  · have e3 := k3 _ _ p4 (hne D hD)
    have t3 := hT _ _ p3 k3
    have t4 : TExt H3 (upd H3 D (.lst (ys ++ [y]))) := TExt.lst Keep.at_ e3
    rw [List.range_succ]
    exact (Paired.mapP p5 fun u z r => hR _ _ _ _ (t3.trans t4) r).snoc (hR _ _ _ _ t4 r3)
theorem paired_ex {α β : Type} {R : α → β → Prop} {f : β → PyData} : ∀ {as : List α} {ys : List V}, Paired (fun c y => ∃ z, Dp K H y (f z) ∧ R c z) as ys → ∃ zs : List β, DpAll K H ys (zs.map f) ∧ Paired R as zs
  | _, _, .nil => ⟨[], .nil, .nil⟩
  | _, _, .cons h1 h2 => by
    obtain ⟨z, d, r⟩ := h1
    obtain ⟨zs, ds, rs⟩ := paired_ex h2
    exact ⟨z :: zs, .cons d ds, .cons r rs⟩
theorem paired_right {α : Type} {P : V → Prop} : ∀ {as : List α} {ys : List V}, Paired (fun _ y => P y) as ys → ∀ y ∈ ys, P y
  | _, _, .nil, y, h => by simp at h
  | _, _, .cons h1 h2, y, h => by
    rcases List.mem_cons.mp h with rfl | h
    · exact h1
    · exact paired_right h2 y h
theorem paired_ints {α : Type} {R : α → Int → Prop} : ∀ {as : List α} {ys : List V}, Paired (fun c y => ∃ z, y = V.int z ∧ R c z) as ys → ∃ zs : List Int, ys = zs.map V.int ∧ Paired R as zs
  | _, _, .nil => ⟨[], rfl, .nil⟩
  | _, _, .cons h1 h2 => by
    obtain ⟨z, rfl, r⟩ := h1
    obtain ⟨zs, rfl, rs⟩ := paired_ints h2
    exact ⟨z :: zs, rfl, .cons r rs⟩
theorem int_at {zs : List Int} {i : Nat} {x : V} (h : (zs.map V.int)[i]? = some x) : ∃ z, zs[i]? = some z ∧ x = .int z := by
  rw [List.getElem?_map] at h
  obtain ⟨z, h1, h2⟩ := Option.map_eq_some_iff.mp h
  exact ⟨z, h1, h2.symm⟩
/-- over a tuple of data -/
theorem lc_tupD {α : Type} {as : List α} {fa : α → PyData} {ws : List V} (h1 : SqT K H a ws) (h2 : DpAll K H ws (as.map fa)) (hn : as.length ≤ 16777216) (f : α → Bool) (fx : α → PyData) (hi : ∀ c, imm (fx c) = true)
    (hs : ∀ c x H2 (S : VK) (N : Hp → Prop), c ∈ as → Same H H2 → Dp K H2 x (fa c) → (f c = true → ∀ y H3, Same H2 H3 → Dp K H3 y (fx c) → S y H3) → (f c = false → ∀ H3, Same H2 H3 → N H3) →
      g x (wipe σ vs) H2 fun σ2 H3 => wipe σ2 vs = wipe σ vs ∧ tt σ2 H3 fun b H4 => if b = true then te σ2 H4 S else N H4)
    (q : ∀ D H' ys, H D = none → Same H H' → H' D = some (.lst ys) → DpAll K H' ys ((as.filter f).map fx) → Q (.ref D) H') : LcW (Itt K a) g tt te vs σ H Q := by
  have hl : ws.length = as.length := by rw [dpAll_len h2]; simp
  have w : Wk (Itt K a) as.length (fun H' => SqT K H' a ws ∧ Same H H') (fun i H2 x H' => H' = H2 ∧ Same H H2 ∧ ws[i]? = some x) := by
    rw [← hl]
    exact ⟨fun i H e => wk_tup.go i H e.1, fun i H e => wk_tup.stop i H e.1, fun i H2 x H' e y => by have z := wk_tup.yld i H2 x H' e.1 y; exact ⟨z.1, e.2, z.2⟩⟩
  refine lc_gen as (fun c x H2 => Dp K H2 x (fa c)) w (fun i H2 x H' hi h => ?_) (fun H' s => ⟨SqT.text (TExt.of_same s) h1, s⟩) hn f (fun H c y => Dp K H y (fx c)) (fun H H' c y e h => Dp.text e _ _ (hi c) h) hs
    (fun D H' ys hD s e p => q D H' ys hD s e (paired_dp p))
  obtain ⟨rfl, s, hx⟩ := h
  obtain ⟨c, hc, hd⟩ := dpAll_map_at h2 hx
  exact ⟨c, hc, Same.refl _, Dp.same s _ _ hd⟩
/-- over a list of data -/
theorem lc_lstD {α : Type} {as : List α} {fa : α → PyData} {ws : List V} (h1 : SqL K H a ws) (h2 : DpAll K H ws (as.map fa)) (hn : as.length ≤ 16777216) (f : α → Bool) (fx : α → PyData) (hi : ∀ c, imm (fx c) = true)
    (hs : ∀ c x H2 (S : VK) (N : Hp → Prop), c ∈ as → Same H H2 → Dp K H2 x (fa c) → (f c = true → ∀ y H3, Same H2 H3 → Dp K H3 y (fx c) → S y H3) → (f c = false → ∀ H3, Same H2 H3 → N H3) →
      g x (wipe σ vs) H2 fun σ2 H3 => wipe σ2 vs = wipe σ vs ∧ tt σ2 H3 fun b H4 => if b = true then te σ2 H4 S else N H4)
    (q : ∀ D H' ys, H D = none → Same H H' → H' D = some (.lst ys) → DpAll K H' ys ((as.filter f).map fx) → Q (.ref D) H') : LcW (Itl K a) g tt te vs σ H Q := by
  have hl : ws.length = as.length := by rw [dpAll_len h2]; simp
  have w : Wk (Itl K a) as.length (fun H' => SqL K H' a ws ∧ Same H H') (fun i H2 x H' => H' = H2 ∧ Same H H2 ∧ ws[i]? = some x) := by
    rw [← hl]
    exact ⟨fun i H e => wk_list.go i H e.1, fun i H e => wk_list.stop i H e.1, fun i H2 x H' e y => by have z := wk_list.yld i H2 x H' e.1 y; exact ⟨z.1, e.2, z.2⟩⟩
  refine lc_gen as (fun c x H2 => Dp K H2 x (fa c)) w (fun i H2 x H' hi h => ?_) (fun H' s => ⟨s.seq h1, s⟩) hn f (fun H c y => Dp K H y (fx c)) (fun H H' c y e h => Dp.text e _ _ (hi c) h) hs
    (fun D H' ys hD s e p => q D H' ys hD s e (paired_dp p))
  obtain ⟨rfl, s, hx⟩ := h
  obtain ⟨c, hc, hd⟩ := dpAll_map_at h2 hx
  exact ⟨c, hc, Same.refl _, Dp.same s _ _ hd⟩
/-- over whatever is walked, one object p being changed in each turn -/
theorem lc_genK {α : Type} {p : Addr} (I : Hp → Prop) (h0 : I H) (hne : ∀ D, H D = none → D ≠ p) (hU : ∀ H1 D ys, H D = none → I H1 → (H1 D = none ∨ ∃ l, H1 D = some (.lst l)) → I (upd H1 D (.lst ys))) (hT : ∀ H1 H2, I H1 → Keep (At p) H1 H2 → TExt H1 H2)
    (as : List α) (It1 : α → V → Hp → Prop) (w : Wk J as.length src item) (hit : ∀ i H x H', i < as.length → item i H x H' → ∃ c, as[i]? = some c ∧ H' = H ∧ It1 c x H') (hsrc : ∀ H', Keep (At p) H H' → I H' → src H')
    (hn : as.length ≤ 16777216) (R : Hp → α → V → Prop) (hR : ∀ H H' c y, TExt H H' → R H c y → R H' c y)
    (hs : ∀ c x H2 (S : VK) (N : Hp → Prop), c ∈ as → Keep (At p) H H2 → I H2 → It1 c x H2 → (∀ y H3, Keep (At p) H2 H3 → I H3 → R H3 c y → S y H3) →
      g x (wipe σ vs) H2 fun σ2 H3 => wipe σ2 vs = wipe σ vs ∧ tYes σ2 H3 fun b H4 => if b = true then te σ2 H4 S else N H4)
    (q : ∀ D H' ys, H D = none → Keep (At p) H H' → I H' → H' D = some (.lst ys) → Paired (R H') as ys → Q (.ref D) H') : LcW J g tYes te vs σ H Q := by
  refine lc_wk w (fun D i H' => H D = none ∧ Keep (At p) H H' ∧ I H' ∧ ∃ ys, H' D = some (.lst ys) ∧ Paired (R H') (as.take i) ys) (fun D hD => ⟨hD, fun b o e _ => by rw [upd_ne (ne_of_none e hD)]; exact e, hU _ _ _ hD h0 (.inl hD), [], by simp [upd_same], by simpa using Paired.nil⟩)
    (fun D i H' _ p => hsrc H' p.2.1 p.2.2.1) ?_ (fun D H' hD p => by obtain ⟨p1, p2, p3, ys, p4, p5⟩ := p; rw [List.take_length] at p5; exact q D H' ys hD p2 p3 p4 p5)
  rintro D i x H2 H' hD hi ⟨p1, p2, p3, ys, p4, p5⟩ hx
  obtain ⟨c, hc, rfl, hI⟩ := hit i H2 x H' hi hx
  have hm : c ∈ as := List.mem_of_getElem? hc
  refine hs c x H' _ _ hm p2 p3 hI (fun y H3 k3 i3 r3 => ⟨ys, k3 _ _ p4 (hne D hD), by rw [sizeLine_eq, ← p5.length, List.length_take]; omega, hD, ?_, hU _ _ _ hD i3 (.inr ⟨ys, k3 _ _ p4 (hne D hD)⟩), ys ++ [y], upd_same, ?_⟩)
  · exact (p2.trans k3).free hD
  · have e3 := k3 _ _ p4 (hne D hD)
    have t3 := hT _ _ p3 k3
    have t4 : TExt H3 (upd H3 D (.lst (ys ++ [y]))) := TExt.lst Keep.at_ e3
    rw [take_snoc hc]
    exact (Paired.mapP p5 fun u z r => hR _ _ _ _ (t3.trans t4) r).snoc (hR _ _ _ _ t4 r3)
/-- over zip of two tuples of data -/
theorem lc_zipD {α β : Type} {as : List α} {bs : List β} {fa : α → PyData} {fb : β → PyData} {b : Addr} {xs ys : List V} (h1 : SqT K H a xs) (d1 : DpAll K H xs (as.map fa)) (h2 : SqT K H b ys) (d2 : DpAll K H ys (bs.map fb)) (hn : as.length ≤ 16777216)
    (f : α × β → Bool) (fx : α × β → PyData) (hi : ∀ c, imm (fx c) = true)
    (hs : ∀ c T x y H2 (S : VK) (N : Hp → Prop), c ∈ as.zip bs → Same H H2 → H2 T = some (.tup [x, y]) → Dp K H2 x (fa c.1) → Dp K H2 y (fb c.2) → (f c = true → ∀ z H3, Same H2 H3 → Dp K H3 z (fx c) → S z H3) → (f c = false → ∀ H3, Same H2 H3 → N H3) →
      g (.ref T) (wipe σ vs) H2 fun σ2 H3 => wipe σ2 vs = wipe σ vs ∧ tt σ2 H3 fun b H4 => if b = true then te σ2 H4 S else N H4)
    (q : ∀ D H' zs, H D = none → Same H H' → H' D = some (.lst zs) → DpAll K H' zs (((as.zip bs).filter f).map fx) → Q (.ref D) H') : LcW (RZ.ItzT K a b) g tt te vs σ H Q := by
  have l1 : xs.length = as.length := by rw [dpAll_len d1]; simp
  have l2 : ys.length = bs.length := by rw [dpAll_len d2]; simp
  have hl : min xs.length ys.length = (as.zip bs).length := by rw [l1, l2, List.length_zip]
  have w : Wk (RZ.ItzT K a b) (as.zip bs).length (fun H' => (SqT K H' a xs ∧ SqT K H' b ys) ∧ Same H H') (fun i H2 v H' => Same H H2 ∧ ∃ T x y, v = .ref T ∧ H2 T = none ∧ H' = upd H2 T (.tup [x, y]) ∧ xs[i]? = some x ∧ ys[i]? = some y) := by
    rw [← hl]
    exact ⟨fun i H e => wk_zipT.go i H e.1, fun i H e => wk_zipT.stop i H e.1, fun i H2 x H' e y => ⟨e.2, wk_zipT.yld i H2 x H' e.1 y⟩⟩
  refine lc_gen (as.zip bs) (fun c v H2 => ∃ T x y, v = .ref T ∧ H2 T = some (.tup [x, y]) ∧ Dp K H2 x (fa c.1) ∧ Dp K H2 y (fb c.2)) w (fun i H2 v H' hi h => ?_) (fun H' s => ⟨⟨SqT.text (TExt.of_same s) h1, SqT.text (TExt.of_same s) h2⟩, s⟩) (by rw [List.length_zip]; omega) f (fun H c y => Dp K H y (fx c)) (fun H H' c y e h => Dp.text e _ _ (hi c) h)
    (fun c v H2 S N hc s hv k1 k2 => ?_) (fun D H' ys hD s e p => q D H' ys hD s e (paired_dp p))
  · obtain ⟨s, T, x, y, rfl, hT, rfl, hx, hy⟩ := h
    obtain ⟨c, hc, hd⟩ := dpAll_map_at d1 hx
    obtain ⟨c', hc', hd'⟩ := dpAll_map_at d2 hy
    have sT : Same H2 (upd H2 T (.tup [x, y])) := Keep.same (Keep.new hT)
    exact ⟨(c, c'), by rw [List.getElem?_zip_eq_some]; exact ⟨hc, hc'⟩, sT, T, x, y, rfl, upd_same, Dp.same (s.trans sT) _ _ hd, Dp.same (s.trans sT) _ _ hd'⟩
  · obtain ⟨T, x, y, rfl, hT, hx, hy⟩ := hv
    exact hs c T x y H2 S N hc s hT hx hy k1 k2
end
theorem cx_none {P : Program} {w : World} {H : Hp} {s : Shared} {e : Value} {s' : Shared} (h : L2.CX P w [] H s (fun _ _ _ => False) e s') : False := by
  obtain ⟨_, _, _, _, _, _, _, _, _, _, _, _, z⟩ := h
  exact z.elim
/-! ### exceptions of the program's own: classes over ValueError without a body -/
def bmV : List Value := [.type "ValueError", .type "Exception", .type "BaseException", .type "object"]
structure Exc (K : PySem.W.Frag) (mg : Str → Option Value) (x : Str) (C : Addr) : Prop where
  g : mg x = some (.ref C)
  ex : PySem.W.excIn K C bmV "ValueError.__new__" = true
  kp : PySem.W.keepIn K (.ref C) = true
  bs : PySem.W.subIn K (.ref C) (.type "BaseException") = some true
  ty : PySem.W.typeIn K (.ref C) = some (.type "type")
section
variable {X : Cx} {k j : Nat} {ps : List Str} {sp : Sp} {E : XK} {x : Str} {p pos : Pos} {e : Expr} {es : List Expr} {t : TA} {C : Addr}
/-- raise X('..') -/
theorem ps_rs {W : WX} {m : Str} {jj : Nat} {p2 pos2 : Pos} (T : Exc X.K X.mg x C) (tk : Takes X W) (hc : X.calm = true := by rfl) (hg : Gl X x := by rfl) (hdb : (x == ("__debug__" : Str)) = false := by decide) :
    PS X (.Raise (some (.Call (.Name x p) [.Constant (.str m) jj p2] [] pos)) none pos2) (fun _ σ H => W (.ref C) none σ H) :=
  ps_raise hc tk (pmk_own PySem.F.excBase_ValueError T.ex T.g T.kp (raises_own T.bs T.ty) hg hdb)
/-- a call whose exception leaves this def -/
theorem pe_fnX (F : Fn X.prog X.w X.K X.mg X.base k x ps sp) (hr : Room j X.A) (tk : Takes X (fun cls d _ H => E cls d H)) (ha : PA X (e :: es) t) (hk : k ≤ j := by decide) (hg : Gl X x := by rfl)
    (hdb : (x == ("__debug__" : Str)) = false := by decide) (he : starEach (e :: es) X.env = (false, eval e X.env) :: starEach es X.env := by rfl) (hpl : (backTo pos (starEach es X.env)).any (·.1) = false := by rfl) :
    PE X (.Call (.Name x p) (e :: es) [] pos) (tFn sp E t) := pe_fnE F hr hk hg (passes_call tk fun _ _ _ _ h => h) ha hdb he hpl
end
theorem eqv_same {d : PyData} (h : SeqAt.shaped d = true) : PyData.eqv d d = true := SeqAt.eqv_refl d (SeqAt.canLay_of_shaped h)
/-- a statement, then the rest, with a word between -/
theorem r_cut {σ : St} {H : Hp} {tu tw : TS} {nx bk ct : St → Hp → Prop} {rt : VK} (Mid : St → Hp → Prop) (h : tu ⟨Mid, rt, bk, ct⟩ σ H) (k : ∀ σ' H', Mid σ' H' → tw ⟨nx, rt, bk, ct⟩ σ' H') : Evl.tCut tu tw ⟨nx, rt, bk, ct⟩ σ H := ⟨Mid, h, k⟩
/-! ### texts -/
open TL (tl tl_append mk_tl joinL tl_join join_eq)
section
variable {X : Cx} {K : PySem.W.Frag} {σ : St} {H : Hp} {Q : VK} {to te ta tb : TE} {o e : Expr} {a p : Addr}
def uJoin (K : PySem.W.Frag) : V → List V → Hp → VK → Prop := fun x xs H Q => ∃ a p, ∃ ys : List Str, x = .str a ∧ xs = [.ref p] ∧ (SqL K H p (ys.map V.str) ∨ SqT K H p (ys.map V.str)) ∧
  (ys.map (·.length)).sum + ys.length * a.length ≤ 16777216 ∧ Q (.str (Txt.join a ys)) H
theorem pe_joinU (K : PySem.W.Frag) {apos pos : Pos} (ho : PE X o to) (he : PE X e te) (hs : starEach [e] X.env = [(false, eval e X.env)] := by rfl) (hbase : attributeBase o "join" X.env (eval o X.env) = eval o X.env := by rfl) (hline : (apos.endLine == pos.line) = true := by rfl) (hK : X.K = K := by rfl) :
    PE X (.Call (.Attribute o "join" apos) [e] [] pos) (tM1 (uJoin K) to te) := hK ▸ pe_join ho he hs hbase hline
def uM1 (r : V → List V → Hp → VK → Prop) (te : TE) (σ : St) (x : V) (H : Hp) (Q : VK) : Prop := (∃ a, x = .str a) ∧ te σ H fun y H2 => r x [y] H2 Q
theorem r_m1 {r : V → List V → Hp → VK → Prop} (q : to σ H fun x H1 => uM1 r te σ x H1 Q) : tM1 r to te σ H Q := q
theorem r_m1s {r : V → List V → Hp → VK → Prop} {z : Str} (q : te σ H fun y H2 => r (.str z) [y] H2 Q) : uM1 r te σ (.str z) H Q := ⟨⟨z, rfl⟩, q⟩
theorem r_join {z : Str} {ys : List Str} (h : SqL K H p (ys.map V.str)) (hz : (ys.map (·.length)).sum + ys.length * z.length ≤ 16777216) (q : Q (.str (Txt.join z ys)) H) : uJoin K (.str z) [.ref p] H Q := ⟨z, p, ys, rfl, rfl, .inl h, hz, q⟩
def uAddS : R2 := fun x y H Q => ∃ i j, x = .str i ∧ y = .str j ∧ i.length + j.length ≤ sizeLine ∧ Q (.str (i ++ j)) H
theorem o_adds : OpR X (binaryOp .Add) uAddS := op_add_str
theorem r_adds {i j : Str} (h : i.length + j.length ≤ sizeLine) (q : Q (.str (i ++ j)) H) : uAddS (.str i) (.str j) H Q := ⟨i, j, rfl, rfl, h, q⟩
theorem tl_inj {x y : Str} (h : tl x = tl y) : x = y := by
  have := congrArg (fun l => (⟨l.toArray⟩ : Str)) h
  rw [← mk_tl x, ← mk_tl y]
  exact this
theorem len_tl (x : Str) : x.length = (tl x).length := by simp [tl, Str.length]
theorem joinL_nil : ∀ ps : List (List Nat), joinL [] ps = ps.flatten
  | [] => rfl
  | [p] => by simp [joinL]
  | p :: q :: r => by
    show p ++ ([] ++ joinL [] (q :: r)) = _
    rw [joinL_nil (q :: r)]
    simp
theorem sum_lens {B : Nat} : ∀ {l : List Str}, (∀ c ∈ l, c.length ≤ B) → (l.map (·.length)).sum ≤ l.length * B
  | [], _ => by simp
  | c :: l, h => by
    have h1 := h c (List.mem_cons_self ..)
    have h2 := sum_lens fun d hd => h d (List.mem_cons_of_mem _ hd)
    simp only [List.map_cons, List.sum_cons, List.length_cons, Nat.add_mul, Nat.one_mul]
    omega
theorem tl_join0 (ys : List Str) : tl (Txt.join ("" : Str) ys) = (ys.map tl).flatten := by
  rw [join_eq, tl_join, show tl ("" : Str) = [] by decide +kernel, joinL_nil]
theorem dpAll_strs {K : PySem.W.Frag} {H : Hp} : ∀ {ws : List V} {zs : List Str}, DpAll K H ws (zs.map PyData.str) → ws = zs.map V.str
  | _, [], .nil => rfl
  | _, n :: ns, .cons h1 h2 => by rw [dp_str h1, dpAll_strs h2]; rfl
theorem dpAll_ofStrs (K : PySem.W.Frag) (H : Hp) : ∀ zs : List Str, DpAll K H (zs.map V.str) (zs.map PyData.str)
  | [] => .nil
  | n :: ns => .cons (.str n) (dpAll_ofStrs K H ns)
end
/-! ### range with a step -/
section
variable {X : Cx} {σ : St} {H : Hp} {tg a b c : Expr} {ta : TA}
def uRng3 (vs : List V) (H : Hp) (R : It → Hp → Prop) : Prop := ∃ (i j c : Int) (n : Nat), vs = [.int i, .int j, .int c] ∧ RgC i j c n ∧ R (Itc i c n) H
def iRngU (ta : TA) : TI := fun σ H R => ta σ H fun vs H1 => uRng3 vs H1 R
theorem pi_rangeU {p pos : Pos} (hg : Gl X "range") (hm : X.mg "range" = none) (ha : PA X [a, b, c] ta)
    (hs : starEach [a, b, c] X.env = (false, eval a X.env) :: starEach [b, c] X.env := by rfl) (hpl : (backTo pos (starEach [b, c] X.env)).any (·.1) = false := by rfl) :
    PI X tg (.Call (.Name "range" p) [a, b, c] [] pos) (iRngU ta) := pi_range3 hg hm ha hs hpl
theorem r_irngU {R : It → Hp → Prop} (q : ta σ H fun vs H1 => uRng3 vs H1 R) : iRngU ta σ H R := q
theorem r_rngdown {i j : Int} {R : It → Hp → Prop} (h : -1000000 ≤ i ∧ i ≤ 1000000 ∧ -1000000 ≤ j ∧ j ≤ 1000000) (q : R (Itc i (-1) (i - j).toNat) H) : uRng3 [.int i, .int j, .int (-1)] H R :=
  ⟨i, j, -1, _, rfl, RgC.neg (by omega) (by omega) (by omega) (by omega), q⟩
end
/-! ### shifts -/
def uShl : R2 := fun x y H Q => ∃ (i : Int) (k : Nat), x = .int i ∧ y = .int (k : Int) ∧ CShl i (k : Int) ∧ Q (.int (i * 2 ^ k)) H
def uShr : R2 := fun x y H Q => ∃ (i : Int) (k : Nat), x = .int i ∧ y = .int (k : Int) ∧ Q (.int (i / 2 ^ k)) H
theorem o_shl {X : Cx} : OpR X (binaryOp .LShift) uShl := op_shlN
theorem o_shr {X : Cx} : OpR X (binaryOp .RShift) uShr := op_shrN
theorem r_shl {i : Int} {k : Nat} {H : Hp} {Q : VK} (h : i.natAbs < 2 ^ 64 ∧ k ≤ 1000) (q : Q (.int (i * 2 ^ k)) H) : uShl (.int i) (.int (k : Int)) H Q := ⟨i, k, rfl, rfl, shl_ok h.1 (by omega), q⟩
theorem r_shl1 {k : Nat} {H : Hp} {Q : VK} (h : k ≤ 1000) (q : Q (.int (2 ^ k)) H) : uShl (.int 1) (.int (k : Int)) H Q := r_shl ⟨by decide, h⟩ (by rw [Int.one_mul]; exact q)
theorem r_shl2 {k : Nat} {H : Hp} {Q : VK} (h : k ≤ 1000) (q : Q (.int (2 ^ (k + 1))) H) : uShl (.int 2) (.int (k : Int)) H Q := r_shl ⟨by decide, h⟩ (by
  have e : (2 : Int) * 2 ^ k = 2 ^ (k + 1) := by rw [Int.pow_succ]; omega
  rw [e]; exact q)
theorem r_shr {i : Int} {k : Nat} {H : Hp} {Q : VK} (q : Q (.int (i / 2 ^ k)) H) : uShr (.int i) (.int (k : Int)) H Q := ⟨i, k, rfl, rfl, q⟩
/-! ### numbers -/
theorem two_pos (n : Nat) : (0 : Int) < 2 ^ n := Int.pow_pos (by decide)
theorem two_succ (n : Nat) : (2 : Int) ^ (n + 1) = 2 * 2 ^ n := by rw [Int.pow_succ]; omega
theorem div_is {x w i : Int} (hw : 0 < w) (h1 : i * w ≤ x) (h2 : x < i * w + w) : x / w = i := by
  have a : i ≤ x / w := (Int.le_ediv_iff_mul_le hw).mpr h1
  have b : x / w < i + 1 := (Int.ediv_lt_iff_lt_mul hw).mpr (by rw [Int.add_mul, Int.one_mul]; exact h2)
  omega
end Fp
/-! defs that show data (repr): they are called where no object is being shown (guards = some []); call, body and end of a law once more with that premise -/
namespace Fp
open PySem PySem.Spec PyProof.Rows L2
/-- a promise that holds where nothing is being shown -/
structure OkG (P : Program) (w : World) (K : PySem.W.Frag) (mg : Str → Option Value) (base : Heap) (CX : CXT) (k : Nat) (f : Addr) (fd : FuncData) (ps : List Str) (sp : Sp) : Prop where
  len : ∀ vs H Q E, sp vs H Q E → vs.length = ps.length
  run : ∀ (A : Around) (outer : List Env) (s : Shared) (H : Hp) (args : Args) (us : List Value) (vs : List V) (Q : VK) (E : XK), A.guards = some [] → Room k A →
    Env0 P w K mg base A outer s H → BindsTo s fd args (ps.zip us) → Vals vs us → sp vs H Q E → codeAny (model P w) A (.call (.ref f) args) (CR CX outer P w H s Q E) s
structure FnG (P : Program) (w : World) (K : PySem.W.Frag) (mg : Str → Option Value) (base : Heap) (k : Nat) (x : Str) (ps : List Str) (sp : Sp) : Prop where
  ex : ∃ f fd, mg x = some (.ref f) ∧ PySem.W.keepIn K (.ref f) = true ∧ Binds K fd ps [] ∧ OkG P w K mg base (L2.CX P w) k f fd ps sp
section
variable {P : Program} {w : World} {K : PySem.W.Frag} {mg : Str → Option Value} {base : Heap}
theorem OkG.mono {CX : CXT} {j k : Nat} {f : Addr} {fd : FuncData} {ps : List Str} {sp : Sp} (F : OkG P w K mg base CX j f fd ps sp) (h : j ≤ k) : OkG P w K mg base CX k f fd ps sp :=
  ⟨F.len, fun A outer s H args us vs Q E hg hr => F.run A outer s H args us vs Q E hg (hr.mono h)⟩
theorem OkG.up {k : Nat} {f : Addr} {fd : FuncData} {ps : List Str} {sp : Sp} (F : OkG P w K mg base CX0 k f fd ps sp) : OkG P w K mg base (L2.CX P w) k f fd ps sp :=
  ⟨F.len, fun A outer s H args us vs Q E hg hr he hb hv hs => codeAny_mono (F.run A outer s H args us vs Q E hg hr he hb hv hs) fun r s' hq => by
    cases r with
    | error e => exact False.elim hq
    | ok fl => cases fl <;> exact hq⟩
/-- the rule for a def by its body, the guards known -/
theorem ok_bodyG {CX : CXT} {x qual : Str} {st : Stmt} {f : Addr} {fd : FuncData} {N ps : List Str} {k : Nat} {sp : Sp} (F : Fun K x qual st f fd) (S : FnScope N ps (defScope st)) (len : ∀ vs H Q E, sp vs H Q E → vs.length = ps.length)
    (body : ∀ (cdv : Value) (A : Around) (outer : List Env) (s : Shared) (H : Hp) (vs : List V) (Q : VK) (E : XK), A.guards = some [] → Room k (A.deeper (envOfC qual (defScope st) s.heap.objs.size f cdv)) → sp vs H Q E →
      ∃ t, PSs (cxOf CX P w K mg base N qual (defScope st) f cdv A outer s H E) (defBody st) t ∧ t { nx := fun _ H' => Q .non H', rt := Q } (start N vs) H) : OkG P w K mg base CX (k + 1) f fd ps sp := by
  obtain ⟨oc, od, kV, doc, pm, an, cdv, ct, osl, rfl, lk, hcd⟩ := F.ex
  refine ⟨len, fun A outer s H args us vs Q E hg hr e0 hb rv hsp => ?_⟩
  have KX : K.In s.heap := e0.mod.kin.keeps fun b o e => (e0.bs b o e).1
  have lim : s.heap.NoLimit := e0.mod.nolimit.keeps fun b o e => (e0.bs b o e).1
  have kinds : ∀ y ∈ ps.zip us, (defScope st).names.lookup y.1 = some .local ∨ ((defScope st).names.lookup y.1 = some .cell ∧ ((cellsFrom (s.heap.objs.size + 1) (defScope st).names []).lookup y.1).isSome = true) := by
    rintro ⟨n, v⟩ hy
    exact (S.par n (List.of_mem_zip hy).1).elim .inl fun q => .inr ⟨q, PySem.W.cellsFrom_some _ _ _ (.inl q)⟩
  refine codeAny_call_function hr.depth (KX _ _ lk) rfl S.co S.gen rfl (PySem.W.codeRec_of KX hcd) (hb _ _ _ _ (wpAny_newFunctionEnv_cells S.kind kinds ?_))
  intro env he s1 x1
  subst he
  refine ⟨lim.keeps x1.toInCall.keep, codeAny_func ?_⟩
  obtain ⟨t, ht, hq⟩ := body cdv A outer s H vs Q E hg (hr.deeper _) hsp
  have I0 := inv_start (CX := CX) (P := P) (w := w) (K := K) (mg := mg) (base := base) (qual := qual) (f := f) (cd := cdv) (E := E) S hr.hd e0 (len _ _ _ _ hsp) rv x1
  refine wpAny_mono (ht.run [] s1 (start N vs) H _ I0 hq) (fun fl s' hs => ?_) fun e s' hs => hs
  cases fl with
  | next => obtain ⟨σ', H', J, q⟩ := hs; exact ⟨V.non, H', J.os, J.bare, J.base, J.hok, rfl, q⟩
  | ret u => obtain ⟨v, σ', H', J, r', q⟩ := hs; exact ⟨v, H', J.os, J.bare, J.base, J.hok, r', q⟩
  | brk => obtain ⟨_, _, _, q⟩ := hs; exact q.elim
  | cont => obtain ⟨_, _, _, q⟩ := hs; exact q.elim
theorem Fun.okG {x qual : Str} {st : Stmt} {f : Addr} {fd : FuncData} {N ps : List Str} {k : Nat} {sp : Sp} (F : Fun K x qual st f fd) (S : FnScope N ps (defScope st)) (len : ∀ vs H Q E, sp vs H Q E → vs.length = ps.length)
    (body : ∀ (cdv : Value) (A : Around) (outer : List Env) (s : Shared) (H : Hp) (vs : List V) (Q : VK) (E : XK), A.guards = some [] → Room k (A.deeper (envOfC qual (defScope st) s.heap.objs.size f cdv)) → sp vs H Q E →
      ∃ t, PSs (cxOf CX0 P w K mg base N qual (defScope st) f cdv A outer s H E).nox (defBody st) t ∧ t { nx := fun _ H' => Q .non H', rt := Q } (start N vs) H) : OkG P w K mg base (L2.CX P w) (k + 1) f fd ps sp :=
  (ok_bodyG F S len fun cdv A outer s H vs Q E hg hr h => let ⟨t, h1, h2⟩ := body cdv A outer s H vs Q E hg hr h; ⟨t, h1.nox, h2⟩).up
theorem Def.okG {x : Str} {st : Stmt} {N ps : List Str} {k : Nat} {sp : Sp} (D : Def K mg x st ps) (S : FnScope N ps (defScope st)) (len : ∀ vs H Q E, sp vs H Q E → vs.length = ps.length)
    (body : ∀ (f : Addr) (cdv : Value) (A : Around) (outer : List Env) (s : Shared) (H : Hp) (vs : List V) (Q : VK) (E : XK), A.guards = some [] → Room k (A.deeper (envOfC x (defScope st) s.heap.objs.size f cdv)) → sp vs H Q E →
      ∃ t, PSs (cxOf CX0 P w K mg base N x (defScope st) f cdv A outer s H E).nox (defBody st) t ∧ t { nx := fun _ H' => Q .non H', rt := Q } (start N vs) H) : FnG P w K mg base (k + 1) x ps sp := by
  obtain ⟨f, fd, F, hm, hb⟩ := D.ex
  exact ⟨f, fd, hm, F.kp, hb, Fun.okG F S len (body f)⟩
theorem Fun.okGX {x qual : Str} {st : Stmt} {f : Addr} {fd : FuncData} {N ps : List Str} {k : Nat} {sp : Sp} (F : Fun K x qual st f fd) (S : FnScope N ps (defScope st)) (len : ∀ vs H Q E, sp vs H Q E → vs.length = ps.length)
    (body : ∀ (cdv : Value) (A : Around) (outer : List Env) (s : Shared) (H : Hp) (vs : List V) (Q : VK) (E : XK), A.guards = some [] → Room k (A.deeper (envOfC qual (defScope st) s.heap.objs.size f cdv)) → sp vs H Q E →
      ∃ t, PSs (cxOf (L2.CX P w) P w K mg base N qual (defScope st) f cdv A outer s H E) (defBody st) t ∧ t { nx := fun _ H' => Q .non H', rt := Q } (start N vs) H) : OkG P w K mg base (L2.CX P w) (k + 1) f fd ps sp := ok_bodyG F S len body
theorem Def.okGX {x : Str} {st : Stmt} {N ps : List Str} {k : Nat} {sp : Sp} (D : Def K mg x st ps) (S : FnScope N ps (defScope st)) (len : ∀ vs H Q E, sp vs H Q E → vs.length = ps.length)
    (body : ∀ (f : Addr) (cdv : Value) (A : Around) (outer : List Env) (s : Shared) (H : Hp) (vs : List V) (Q : VK) (E : XK), A.guards = some [] → Room k (A.deeper (envOfC x (defScope st) s.heap.objs.size f cdv)) → sp vs H Q E →
      ∃ t, PSs (cxOf (L2.CX P w) P w K mg base N x (defScope st) f cdv A outer s H E) (defBody st) t ∧ t { nx := fun _ H' => Q .non H', rt := Q } (start N vs) H) : FnG P w K mg base (k + 1) x ps sp := by
  obtain ⟨f, fd, F, hm, hb⟩ := D.ex
  exact ⟨f, fd, hm, F.kp, hb, Fun.okGX F S len (body f)⟩
end
section
variable {X : Cx} {k j : Nat} {ps : List Str} {sp : Sp} {E : XK} {x : Str} {p pos : Pos} {e : Expr} {es : List Expr} {t : TA}
/-- a call of such a def -/
theorem pe_fnG (F : FnG X.prog X.w X.K X.mg X.base k x ps sp) (gs : X.A.guards = some []) (hr : Room j X.A) (ha : PA X (e :: es) t) (hk : k ≤ j := by decide) (hg : Gl X x := by rfl)
    (hdb : (x == ("__debug__" : Str)) = false := by decide) (he : starEach (e :: es) X.env = (false, eval e X.env) :: starEach es X.env := by rfl) (hpl : (backTo pos (starEach es X.env)).any (·.1) = false := by rfl) :
    PE X (.Call (.Name x p) (e :: es) [] pos) (tFn sp E0 t) := by
  obtain ⟨f, fd, hm, hkp, hb, G⟩ := F.ex
  refine ⟨fun pins s σ H Q I h => wpAny_Call_Name_kw (ld_glob I hg hm ?_ hdb)⟩
  refine PySem.W.callWith_K (h₀ := X.base) I.ok.mod.kin hkp (thn (ha.run pos pins s σ H _ I h) ?_) he hpl
  rintro us s1 ⟨vs, H1, I1, rv, q⟩
  refine ⟨I1.kIn, ?_⟩
  have lens : us.length = ps.length := rv.length.symm.trans (G.len _ _ _ _ q)
  have bnd := hb s1 us I1.kIn (by simpa using lens)
  rw [List.append_nil] at bnd
  refine wpAny_call (codeAny_mono ((G.mono hk).run X.A X.stack s1 H1 ⟨us, []⟩ us vs Q E0 gs hr I1.env0 bnd rv q) ?_)
  intro r s2 hq
  cases r with
  | error e => exact passL pins σ H1 s1 e s2 I1 hq
  | ok fl =>
    cases fl with
    | ret u => exact I1.after hq
    | next => exact hq.elim
    | brk => exact hq.elim
    | cont => exact hq.elim
/-- repr(..) of data -/
structure Show (d : PyData) : Prop where
  s : d.showable = true
  n : d.hasDict = false
  l : d.shown.length ≤ sizeLine
  d : d.depth ≤ 32
def uRepr (K : PySem.W.Frag) : List V → Hp → VK → Prop := fun xs H Q => ∃ x d, xs = [x] ∧ Dp K H x d ∧ (d = .none ∨ ∃ ds, d = .tuple ds ∨ d = .list ds) ∧ Show d ∧ Q (.str d.shown) H
theorem call_reprD (gs : X.A.guards = some []) (hu : X.A.units + 64 < cLine) : CallR X (.builtin "repr") (uRepr X.K) := by
  intro pins s σ H vs us Q I rv h
  obtain ⟨x, d, rfl, hd, hds, sh, q⟩ := h
  cases rv with
  | cons r1 r2 =>
    cases r2
    rcases hds with rfl | hds
    · cases dp_non hd
      cases r1
      refine PySem.P.repr_of_none ?_
      have e : (PyData.none).shown = "None" := by simp [PyData.shown]
      rw [e] at q
      exact ⟨.str "None", H, I.kept (t' := s.toks + 1) (fun _ _ z => z), ⟨_, rfl⟩, q⟩
    obtain ⟨as, rd⟩ := Dp.reads I d x _ hd r1
    obtain ⟨ds, hds⟩ := hds
    obtain ⟨a, ea⟩ : ∃ a, x = .ref a := by
      rcases hds with rfl | rfl
      · obtain ⟨a, _, e, _⟩ := dp_tup hd; exact ⟨a, e⟩
      · obtain ⟨a, _, e, _⟩ := dp_lst hd; exact ⟨a, e⟩
    subst ea
    cases r1
    have nd : d.hasDict = true → sysModules ∉ as := fun z => by rw [sh.n] at z; cases z
    have dd := sh.d
    refine repr_of_reads' rd sh.s nd gs (by omega) (fun _ _ e => e) (fun h' u tk hk => ?_) sh.l
    exact ⟨.str d.shown, H, I.kept (t' := tk) hk, ⟨u, rfl⟩, q⟩
end
theorem r_repr {K : PySem.W.Frag} {H : Hp} {Q : VK} {x : V} {d : PyData} (hd : Dp K H x d) (hds : d = .none ∨ ∃ ds, d = .tuple ds ∨ d = .list ds) (sh : Show d) (q : Q (.str d.shown) H) : uRepr K [x] H Q := ⟨x, d, rfl, hd, hds, sh, q⟩
/-! ### the end of a law whose def is such a one -/
theorem law_callG {P : Program} {w : World} {K : PySem.W.Frag} {mg mb : Str → Option Value} {k : Nat} {fa a : Addr} {fd : FuncData} {x : Str} {sp : Sp} {s₁ : Shared} {vs : List Value} {ns : List Int}
    (KX : K.In s₁.heap) (hns : s₁.heap.Ns mainGlobals mg) (hb : s₁.heap.Ns builtinsNs mb) (hbb : ∀ x : Str, x ≠ "__name__" → mb x = bootBuiltins x) (hlim : s₁.heap.NoLimit) (hg : s₁.gens = #[])
    (ha : s₁.heap.get? a = some { cls := .type "list", data := .seq vs.toArray }) (hi : IntsAre vs ns) (hl : ns.length ≤ sizeLine) (hr : Room k callerA)
    (F : ∀ base : Heap, K.In base → base.Ns mainGlobals mg → OkG P w K mg base (L2.CX P w) k fa fd [x] sp) (hbind : ∀ (s : Shared) (u : Value), BindsTo s fd ⟨[u], []⟩ [(x, u)])
    (hsp : ∀ H : Hp, Only H → SqL K H a (ns.map V.int) → sp [.ref a] H (fun v _ => v = .bl true) fun _ _ _ => False) :
    codeAny (model P w) callerA (.call (.ref fa) ⟨[.ref a], []⟩) (fun r s' => r = .ok (.ret (.bool true)) ∧ OldK s₁.heap s'.heap ∧ s'.os = s₁.os ∧ AllBare s'.gens) s₁ := by
  have rv := vals_ints hi
  have inner : ∀ H : Hp, Only H → SqL K H a (ns.map V.int) → HOk P w H s₁.heap → (∀ b, H b ≠ none → b = a) → (H a ≠ none → K.lookup a = none) →
      codeAny (model P w) callerA (.call (.ref fa) ⟨[.ref a], []⟩) (fun r s' => r = .ok (.ret (.bool true)) ∧ OldK s₁.heap s'.heap ∧ s'.os = s₁.os ∧ AllBare s'.gens) s₁ := by
    intro H hO hS hok hA hK
    have free : ∀ {b : Addr}, b ≠ a → H b = none := fun {b} n => Classical.byContradiction fun z => n (hA b z)
    have kept : ∀ {b : Addr} {o : Obj}, s₁.heap.get? b = some o → H b = none → (hidT s₁.heap H).get? b = some o := fun e n => hidT_get e n
    have nots : ∀ {b : Addr} {o : Obj} {es : Array DictEntry} {ep : Nat}, s₁.heap.get? b = some o → o.data = .dict es ep → H b = none := by
      intro b o es ep e d
      refine free fun z => ?_
      subst z
      rw [ha] at e
      cases e
      cases d
    have names : ∀ {b : Addr} {m : Str → Option Value}, s₁.heap.Ns b m → (hidT s₁.heap H).Ns b m := by
      rintro b m ⟨o, es, ep, e, d, r⟩
      exact ⟨o, es, ep, kept e (nots e d), d, r⟩
    have hKb : K.In (hidT s₁.heap H) := by
      intro b o e
      refine kept (KX b o e) (Classical.byContradiction fun q => ?_)
      have z := hA b q
      subst z
      rw [hK q] at e
      cases e
    obtain ⟨mc, l1, l2⟩ := hlim
    have e0 : Env0 P w K mg (hidT s₁.heap H) callerA [] s₁ H :=
      ⟨rfl, ⟨hKb, names hns, ⟨mb, names hb, hbb⟩, ⟨mc, names l1, l2⟩⟩, fun b o e => of_hidT e, Nat.le_of_eq (hidT_size _ _), trivial, fun b hb => absurd (show b ∈ ([] : List Addr) from hb) (by simp), hok, .of_eq hg⟩
    refine codeAny_mono ((F _ hKb (names hns)).run callerA [] s₁ H ⟨[.ref a], []⟩ [.ref a] [.ref a] _ _ rfl hr e0 (hbind s₁ (.ref a)) (.cons rfl .nil) (hsp H hO hS)) ?_
    intro r s' h
    cases r with
    | error e => obtain ⟨_, _, _, _, _, _, _, _, _, _, _, _, z⟩ := h; exact z.elim
    | ok fl =>
      cases fl with
      | next => exact h.elim
      | brk => exact h.elim
      | cont => exact h.elim
      | ret u =>
        obtain ⟨v, H', os, bare, un, hok', r', q⟩ := h
        have q' : v = .bl true := q
        subst q'
        have eu : u = Value.bool true := r'
        subst eu
        refine ⟨rfl, OldK.of_keep fun b o e => ?_, os, bare⟩
        by_cases q : H b = none
        · exact un.keep b o e q (by intro z; exact absurd (show b ∈ ([] : List Addr) from z) (by simp)) (by simp)
        · rcases hO b with z | ⟨ob, xs, z⟩
          · exact absurd z q
          · have e1 := (hok b _ z).1
            have e2 := (hok' b _ (un.frzs b ob _ z)).1
            rw [e] at e1
            cases e1
            exact e2
  cases hk : K.lookup a with
  | some o =>
    have e := KX a o hk
    rw [ha] at e
    cases e
    exact inner (fun _ => none) (fun _ => .inl rfl) (.inr ⟨_, vs.toArray, _, hk, rfl, rfl, rfl, by rw [List.size_toArray, hi.length]; exact hl, by simpa using rv⟩) (fun b u z => nomatch (show (none : Option HO) = some u from z)) (fun b z => absurd rfl z) (fun z => absurd rfl z)
  | none =>
    let ob : Obj := { cls := .type "list", data := .seq vs.toArray }
    let H0 : Hp := fun b => if b = a then some (.frz ob (.lst (ns.map V.int))) else none
    have h0 : H0 a = some (.frz ob (.lst (ns.map V.int))) := if_pos rfl
    have h1 : ∀ b, b ≠ a → H0 b = none := fun b hb => if_neg hb
    refine inner H0 (fun b => ?_) (.inl (.inr ⟨ob, h0⟩)) (fun b u z => ?_) (fun b z => Classical.byContradiction fun n => z (h1 b n)) fun _ => hk
    · by_cases hb : b = a
      · subst hb; exact .inr ⟨_, _, h0⟩
      · exact .inl (h1 b hb)
    · by_cases hb : b = a
      · subst hb
        rw [h0] at z
        cases z
        exact ⟨ha, by rw [List.length_map]; exact hl, vs, _, rv, ha⟩
      · rw [h1 b hb] at z
        cases z
theorem walk_ofG {l : PySem.W.OpenLaw} {n k : Nat} {q : Program} {loose : List Str} {XP : (Str → Option Value) → Heap → Prop} {YP : World → Heap → Prop} {d : DefRec} {K : Params → PySem.W.Frag} {sp : World → Sp} {x : Str}
    (hn : l.most = some n) (hn2 : n ≤ sizeLine) (hdf : d.params.defaults = []) (hr : Room k callerA) (hY : ∀ (w : World) (h : Heap), YP w h → (K w.params).In h)
    (F : ∀ (w : World) (mg : Str → Option Value) (fa : Addr) (h : Heap), (K w.params).In h → h.Ns mainGlobals mg → mg d.name = some (.ref fa) →
      ∃ fd : FuncData, (∀ (s : Shared) (u : Value), BindsTo s fd ⟨[u], []⟩ [(x, u)]) ∧ ∀ base : Heap, (K w.params).In base → base.Ns mainGlobals mg → OkG l.prog w (K w.params) mg base (L2.CX l.prog w) k fa fd [x] (sp w))
    (hsp : ∀ (w : World) (H : Hp) (a : Addr) (ns : List Int), ns.length ≤ n → (∀ z ∈ ns, Builtin.Int.intBits z ≤ 1048576) → Only H → SqL (K w.params) H a (ns.map V.int) → sp w [.ref a] H (fun v _ => v = .bl true) fun _ _ _ => False) :
    PySem.W.WalkO q loose XP YP l.row.toRowW d [] (fun f vs => PySem.call f vs) := by
  refine Att.attach_callB hn hdf ?_
  intro w s₀ s₁ mg mb fa o pm cd doc a vs ns G Y ho hd hcd hmg hobj hints hlen hbits hg
  obtain ⟨fd, hb, hF⟩ := F w mg fa _ (hY w _ Y) G.T.g hmg
  exact law_callG (hY w _ Y) G.T.g G.T.b G.T.builtins G.T.nolimit hg hobj hints (Nat.le_trans hlen hn2) hr hF hb fun H hO hS => hsp w H a ns hlen hbits hO hS
/-! ### how long what is shown may be -/
structure Shw (d : PyData) (b : Nat) : Prop where
  s : d.showable = true
  n : d.hasDict = false
  l : d.shown.length ≤ b
theorem Shw.mono {d : PyData} {b b' : Nat} (h : Shw d b) (hb : b ≤ b') : Shw d b' := ⟨h.s, h.n, Nat.le_trans h.l hb⟩
theorem Shw.none : Shw .none 4 := ⟨by simp [PyData.showable], by simp [PyData.hasDict], by rw [PyData.shown_none]; decide⟩
theorem Shw.int {i : Int} (h : i.natAbs < 2 ^ 1919) : Shw (.int i) 1921 := by
  have hl : i.natAbs.log2 < 1920 := Nat.lt_of_lt_of_le (PySem.Flt.log2_lt_of (by decide) h) (by decide)
  refine ⟨by simp [PyData.showable, hl], by simp [PyData.hasDict], ?_⟩
  rw [PyData.shown_int]
  exact PyProof.Rows.int_text_len_1921 hl
theorem piled_le {b : Nat} : ∀ ts : List Str, (∀ t ∈ ts, t.length ≤ b) → PySem.piled ts ≤ ts.length * (b + 2)
  | [], _ => by simp [PySem.piled]
  | t :: ts, h => by
    have h1 := h t (List.mem_cons_self ..)
    have h2 := piled_le ts fun x hx => h x (List.mem_cons_of_mem _ hx)
    have e : PySem.piled (t :: ts) = (t.length + 2) + PySem.piled ts := by simp [PySem.piled]
    rw [e, List.length_cons, Nat.succ_mul]
    omega
theorem shownAll_map : ∀ xs : List PyData, PyData.shownAll xs = xs.map PyData.shown
  | [] => by simp [PyData.shownAll]
  | x :: xs => by simp only [PyData.shownAll, List.map_cons, shownAll_map xs]
theorem showableAll_of : ∀ {xs : List PyData}, (∀ x ∈ xs, x.showable = true) → PyData.showableAll xs = true
  | [], _ => by simp [PyData.showableAll]
  | x :: xs, h => by
    rw [PyData.showableAll, h x (List.mem_cons_self ..), showableAll_of fun y hy => h y (List.mem_cons_of_mem _ hy)]
    rfl
theorem hasDictAll_of : ∀ {xs : List PyData}, (∀ x ∈ xs, x.hasDict = false) → PyData.hasDictAll xs = false
  | [], _ => by simp [PyData.hasDictAll]
  | x :: xs, h => by
    rw [PyData.hasDictAll, h x (List.mem_cons_self ..), hasDictAll_of fun y hy => h y (List.mem_cons_of_mem _ hy)]
    rfl
theorem Shw.tup {xs : List PyData} {b : Nat} (h : ∀ x ∈ xs, Shw x b) : Shw (.tuple xs) (xs.length * (b + 2) + 3) := by
  refine ⟨?_, ?_, ?_⟩
  · rw [PyData.showable]
    exact showableAll_of fun x hx => (h x hx).s
  · rw [PyData.hasDict]
    exact hasDictAll_of fun x hx => (h x hx).n
  · rw [PyData.shown_tuple, shownAll_map]
    have hp := piled_le (b := b) (xs.map PyData.shown) fun t ht => by
      obtain ⟨x, hx, rfl⟩ := List.mem_map.mp ht
      exact (h x hx).l
    rw [List.length_map] at hp
    have hj : (Str.join ", " (xs.map PyData.shown)).length ≤ PySem.piled (xs.map PyData.shown) := by
      cases xs with
      | nil => exact Nat.zero_le _
      | cons x r =>
        have := PySem.join_length_add ((x :: r).map PyData.shown) (by simp)
        omega
    have ha : ∀ a b : Str, (a ++ b).length = a.length + b.length := fun a b => Str.length_append a b
    rw [ha, ha]
    have h1 : (("(" : Str)).length = 1 := by decide
    have h2 : ((if xs.length == 1 then ",)" else ")" : String) : Str).length ≤ 2 := by split <;> decide
    omega
theorem Shw.show {d : PyData} {b : Nat} (h : Shw d b) (hb : b ≤ 16777216) (hd : d.depth ≤ 32) : Show d := ⟨h.s, h.n, by rw [sizeLine_eq]; exact Nat.le_trans h.l hb, hd⟩
end Fp
/-! pairs of numbers, curves: plain lists; dicts by number -/
namespace Fp
open PySem PySem.Spec PyProof.Rows L2
abbrev Prs := List (Int × Int)
def pairP (p : Int × Int) : PyData := .tuple [.int p.1, .int p.2]
def prsD (l : Prs) : PyData := .tuple (l.map pairP)
theorem imm_pair (p : Int × Int) : imm (pairP p) = true := by simp [pairP, imm, immAll]
theorem imm_all (l : Prs) : immAll (l.map pairP) = true := immAll_map _ imm_pair l
theorem imm_prs (l : Prs) : imm (prsD l) = true := by
  unfold prsD
  simp only [imm]
  exact imm_all l
theorem shp_pair (p : Int × Int) : Shp 1 (pairP p) := Shp.t2 (.int _) (.int _)
theorem shp_prs (l : Prs) : Shp 2 (prsD l) := Shp.tupleM (n := 1) shp_pair
theorem shaped_prs (l : Prs) : SeqAt.shaped (prsD l) = true := (shp_prs l).ok
theorem dp_pair {K : PySem.W.Frag} {H : Hp} {v : V} {p : Int × Int} (h : Dp K H v (pairP p)) : ∃ a, v = .ref a ∧ SqT K H a [.int p.1, .int p.2] := dp_ints (ns := [p.1, p.2]) h
theorem dp_of_pair {K : PySem.W.Frag} {H : Hp} {a : Addr} {i j : Int} (h : SqT K H a [.int i, .int j]) : Dp K H (.ref a) (pairP (i, j)) := .tup h (dpAll_ints K H [i, j])
theorem eqv_pair (p q : Int × Int) : PyData.eqv (pairP p) (pairP q) = decide (p = q) := by
  simp only [pairP, PyData.eqv, PyData.eqvAll, Bool.and_true]
  rw [Bool.eq_iff_iff]
  simp [Prod.ext_iff]
theorem eqvAll_prs : ∀ l m : Prs, PyData.eqvAll (l.map pairP) (m.map pairP) = decide (l = m)
  | [], [] => by simp [PyData.eqvAll]
  | [], q :: m => by simp [PyData.eqvAll]
  | p :: l, [] => by simp [PyData.eqvAll]
  | p :: l, q :: m => by
    simp only [List.map_cons, PyData.eqvAll]
    rw [eqv_pair, eqvAll_prs l m, Bool.eq_iff_iff]
    simp
theorem eqv_prs (l m : Prs) : PyData.eqv (prsD l) (prsD m) = decide (l = m) := by
  unfold prsD
  rw [PyData.eqv]
  exact eqvAll_prs l m
/-! ### tables by number -/
def putP (l : Prs) (t h : Int) : Prs := if (l.any fun p => decide (p.1 = t)) = true then l.map (fun p => if p.1 = t then (p.1, h) else p) else l ++ [(t, h)]
def valP (l : Prs) (t : Int) : Option Int := (l.find? fun p => decide (p.1 = t)).map (·.2)
def mergeP (l more : Prs) : Prs := more.foldl (fun acc p => putP acc p.1 p.2) l
def inj (p : Int × Int) : Key × V := (Sum.inl p.1, .int p.2)
theorem any_inj (t : Int) : ∀ l : Prs, ((l.map inj).any fun kv => decide (kv.1 = Sum.inl t)) = l.any fun p => decide (p.1 = t)
  | [] => rfl
  | p :: l => by
    simp only [List.map_cons, List.any_cons, any_inj t l]
    congr 1
    rw [Bool.eq_iff_iff]
    simp [inj]
theorem put_inj (l : Prs) (t h : Int) : putK (l.map inj) (Sum.inl t) (.int h) = (putP l t h).map inj := by
  unfold putK putP
  rw [any_inj]
  split
  · rw [List.map_map, List.map_map]
    refine List.map_congr_left fun p _ => ?_
    show (if (inj p).1 = Sum.inl t then ((inj p).1, V.int h) else inj p) = inj (if p.1 = t then (p.1, h) else p)
    by_cases e : p.1 = t
    · rw [if_pos e, if_pos (by rw [← e]; rfl)]; rfl
    · rw [if_neg e, if_neg (by simpa [inj] using e)]
  · rw [List.map_append]; rfl
theorem merge_inj : ∀ (more l : Prs), mergeK (l.map inj) (more.map inj) = (mergeP l more).map inj
  | [], l => rfl
  | p :: r, l => by
    show mergeK (putK (l.map inj) (inj p).1 (inj p).2) (r.map inj) = (mergeP (putP l p.1 p.2) r).map inj
    rw [show putK (l.map inj) (inj p).1 (inj p).2 = (putP l p.1 p.2).map inj from put_inj l p.1 p.2]
    exact merge_inj r _
theorem val_inj (t : Int) : ∀ l : Prs, valV (l.map inj) (Sum.inl t) = (valP l t).map V.int
  | [] => rfl
  | p :: l => by
    by_cases e : p.1 = t
    · rw [List.map_cons, valV_pos (by rw [← e]; rfl)]
      simp [valP, List.find?_cons, e, inj]
    · rw [List.map_cons, valV_neg (by simpa [inj] using e), val_inj t l]
      simp [valP, List.find?_cons, e]
theorem valP_pos {p : Int × Int} {r : Prs} {k : Int} (e : p.1 = k) : valP (p :: r) k = some p.2 := by simp [valP, List.find?_cons, e]
theorem valP_neg {p : Int × Int} {r : Prs} {k : Int} (e : ¬ p.1 = k) : valP (p :: r) k = valP r k := by simp [valP, List.find?_cons, e]
theorem valP_iff {t h : Int} : ∀ {l : Prs}, (l.map (·.1)).Nodup → (valP l t = some h ↔ (t, h) ∈ l)
  | [], _ => by simp [valP]
  | p :: l, nd => by
    have nd2 := List.nodup_cons.mp nd
    by_cases e : p.1 = t
    · rw [valP_pos e]
      constructor
      · intro z
        have z := Option.some.inj z
        rw [List.mem_cons]
        left
        rw [← e, ← z]
      · intro z
        rcases List.mem_cons.mp z with z | z
        · rw [← z]
        · exact absurd (show p.1 ∈ l.map (·.1) by rw [e]; exact List.mem_map_of_mem (f := (·.1)) z) nd2.1
    · rw [valP_neg e, valP_iff nd2.2]
      constructor
      · exact fun z => List.mem_cons_of_mem _ z
      · intro z
        rcases List.mem_cons.mp z with z | z
        · exact absurd (by rw [← z]) e
        · exact z
theorem any_iff {l : Prs} {t : Int} : (l.any fun p => decide (p.1 = t)) = true ↔ t ∈ l.map (·.1) := by
  simp only [List.any_eq_true, decide_eq_true_eq, List.mem_map]
theorem keys_put (l : Prs) (t h : Int) : (putP l t h).map (·.1) = if t ∈ l.map (·.1) then l.map (·.1) else l.map (·.1) ++ [t] := by
  unfold putP
  by_cases e : t ∈ l.map (·.1)
  · rw [if_pos e, if_pos (any_iff.mpr e), List.map_map]
    refine List.map_congr_left fun p _ => ?_
    show (if p.1 = t then (p.1, h) else p).1 = p.1
    split <;> rfl
  · rw [if_neg e, if_neg (fun z => e (any_iff.mp z)), List.map_append]; rfl
theorem nd_put {l : Prs} (t h : Int) (nd : (l.map (·.1)).Nodup) : ((putP l t h).map (·.1)).Nodup := by
  rw [keys_put]
  split
  · exact nd
  · rename_i e
    rw [List.nodup_append]
    exact ⟨nd, by simp, fun a ha b hb => by simp at hb; subst hb; exact fun z => e (z ▸ ha)⟩
theorem nd_merge : ∀ (more l : Prs), (l.map (·.1)).Nodup → ((mergeP l more).map (·.1)).Nodup
  | [], l, nd => nd
  | p :: r, l, nd => nd_merge r _ (nd_put p.1 p.2 nd)
theorem mem_put {l : Prs} {t h : Int} {p : Int × Int} : p ∈ putP l t h ↔ (p = (t, h)) ∨ (p ∈ l ∧ p.1 ≠ t) := by
  unfold putP
  split
  · rename_i e
    obtain ⟨q, hq, e⟩ := List.any_eq_true.mp e
    have e : q.1 = t := of_decide_eq_true e
    rw [List.mem_map]
    constructor
    · rintro ⟨x, hx, rfl⟩
      by_cases z : x.1 = t
      · rw [if_pos z, z]; exact .inl rfl
      · rw [if_neg z]; exact .inr ⟨hx, z⟩
    · rintro (rfl | ⟨h1, h2⟩)
      · exact ⟨q, hq, by rw [if_pos e, e]⟩
      · exact ⟨p, h1, if_neg h2⟩
  · rename_i e
    rw [List.mem_append, List.mem_singleton]
    constructor
    · rintro (h1 | h1)
      · exact .inr ⟨h1, fun z => e (any_iff.mpr (z ▸ List.mem_map_of_mem h1))⟩
      · exact .inl h1
    · rintro (h1 | ⟨h1, _⟩)
      · exact .inr h1
      · exact .inl h1
/-- p is the last one of its time -/
def Last (l : Prs) (p : Int × Int) : Prop := p ∈ mergeP [] l
theorem merge_snoc (l : Prs) (q : Int × Int) : mergeP [] (l ++ [q]) = putP (mergeP [] l) q.1 q.2 := by
  unfold mergeP
  rw [List.foldl_append]
  rfl
theorem last_snoc {l : Prs} {q p : Int × Int} : Last (l ++ [q]) p ↔ p = q ∨ (Last l p ∧ p.1 ≠ q.1) := by
  unfold Last
  rw [merge_snoc, mem_put]
theorem mem_merge {p : Int × Int} : ∀ (more l : Prs), p ∈ mergeP l more → p ∈ l ∨ p ∈ more
  | [], l, h => .inl h
  | q :: r, l, h => by
    rcases mem_merge r _ h with h | h
    · rcases mem_put.mp h with h | h
      · exact .inr (h ▸ List.mem_cons_self ..)
      · exact .inl h.1
    · exact .inr (List.mem_cons_of_mem _ h)
theorem Last.mem {l : Prs} {p : Int × Int} (h : Last l p) : p ∈ l := by
  rcases mem_merge l [] h with h | h
  · simp at h
  · exact h
theorem len_put (l : Prs) (t h : Int) : (putP l t h).length ≤ l.length + 1 := by
  unfold putP
  split <;> simp
theorem len_merge : ∀ (more l : Prs), (mergeP l more).length ≤ l.length + more.length
  | [], l => Nat.le_refl _
  | p :: r, l => by
    have h1 := len_merge r (putP l p.1 p.2)
    have h2 := len_put l p.1 p.2
    show (mergeP (putP l p.1 p.2) r).length ≤ _
    simp only [List.length_cons]
    omega
/-- c is the curve of the samples l -/
structure IsC (l c : Prs) : Prop where
  up : c.Pairwise fun p q => p.1 < q.1
  mem : ∀ p, p ∈ c ↔ Last l p
  len0 : c.length = (mergeP [] l).length
theorem IsC.len {l c : Prs} (h : IsC l c) : c.length ≤ l.length := by
  rw [h.len0]
  have := len_merge l []
  simpa using this
theorem up_ext : ∀ {l l' : Prs}, (l.Pairwise fun p q => p.1 < q.1) → (l'.Pairwise fun p q => p.1 < q.1) → (∀ p, p ∈ l ↔ p ∈ l') → l = l'
  | [], [], _, _, _ => rfl
  | [], q :: r, _, _, h => by have := (h q).mpr (List.mem_cons_self ..); simp at this
  | p :: r, [], _, _, h => by have := (h p).mp (List.mem_cons_self ..); simp at this
  | p :: r, q :: r', h1, h2, h => by
    obtain ⟨a1, a2⟩ := List.pairwise_cons.mp h1
    obtain ⟨b1, b2⟩ := List.pairwise_cons.mp h2
    have e : p = q := by
      rcases List.mem_cons.mp ((h p).mp (List.mem_cons_self ..)) with z | z
      · exact z
      · rcases List.mem_cons.mp ((h q).mpr (List.mem_cons_self ..)) with y | y
        · exact y.symm
        · have := a1 q y; have := b1 p z; omega
    subst e
    congr 1
    refine up_ext a2 b2 fun x => ⟨fun hx => ?_, fun hx => ?_⟩
    · rcases List.mem_cons.mp ((h x).mp (List.mem_cons_of_mem _ hx)) with z | z
      · subst z; have := a1 _ hx; omega
      · exact z
    · rcases List.mem_cons.mp ((h x).mpr (List.mem_cons_of_mem _ hx)) with z | z
      · subst z; have := b1 _ hx; omega
      · exact z
theorem IsC.uniq {l c c' : Prs} (h : IsC l c) (h' : IsC l c') : c = c' := up_ext h.up h'.up fun p => (h.mem p).trans (h'.mem p).symm
/-- what dict and sorted make -/
def outOf (m : Prs) (ys : List Int) : Prs := ys.map fun t => (t, (valP m t).getD 0)
theorem isC_out {l : Prs} {ys : List Int} (hp : ys.Perm ((mergeP [] l).map (·.1))) (hs : ys.Pairwise (· ≤ ·)) : IsC l (outOf (mergeP [] l) ys) := by
  have nd := nd_merge l [] (by simp)
  have ndy : ys.Nodup := hp.nodup_iff.mpr nd
  refine ⟨?_, fun p => ?_, ?_⟩
  · unfold outOf
    rw [List.pairwise_map]
    refine List.Pairwise.imp₂ (fun a b h1 h2 => ?_) hs ndy
    show a < b
    have : a ≠ b := h2
    omega
  · unfold outOf Last
    rw [List.mem_map]
    constructor
    · rintro ⟨t, ht, rfl⟩
      obtain ⟨q, hq, e⟩ := List.mem_map.mp (hp.mem_iff.mp ht)
      have e2 : valP (mergeP [] l) t = some q.2 := (valP_iff nd).mpr (by rw [← e]; exact hq)
      rw [e2]
      rw [← e]
      exact hq
    · intro h
      refine ⟨p.1, hp.mem_iff.mpr (List.mem_map_of_mem h), ?_⟩
      have e2 : valP (mergeP [] l) p.1 = some p.2 := (valP_iff nd).mpr h
      rw [e2]
      rfl
  · unfold outOf
    rw [List.length_map, hp.length_eq, List.length_map]
/-- samples each of its own time, rising: their own curve -/
theorem last_nodup : ∀ {l : Prs} {p : Int × Int}, (l.map (·.1)).Nodup → (Last l p ↔ p ∈ l) := by
  intro l
  suffices h : ∀ n, ∀ l : Prs, l.length = n → ∀ p, (l.map (·.1)).Nodup → (Last l p ↔ p ∈ l) from fun {p} nd => h _ l rfl p nd
  intro n
  induction n with
  | zero =>
    intro l hl p _
    have : l = [] := List.length_eq_zero_iff.mp hl
    subst this
    simp [Last, mergeP]
  | succ n ih =>
    intro l hl p nd
    have hne : l ≠ [] := by intro z; subst z; simp at hl
    rw [← List.dropLast_concat_getLast hne] at nd ⊢
    rw [List.map_append, List.nodup_append] at nd
    rw [last_snoc, ih _ (by simp [hl]) p nd.1, List.mem_append, List.mem_singleton]
    constructor
    · rintro (h | h)
      · exact .inr h
      · exact .inl h.1
    · rintro (h | h)
      · exact .inr ⟨h, nd.2.2 _ (List.mem_map_of_mem h) _ (by simp)⟩
      · exact .inl h
theorem up_nodup {c : Prs} (h : c.Pairwise fun p q => p.1 < q.1) : (c.map (·.1)).Nodup := by
  unfold List.Nodup
  rw [List.pairwise_map]
  exact h.imp fun h => by omega
theorem keys_in {t : Int} : ∀ (more l : Prs), t ∈ l.map (·.1) ∨ t ∈ more.map (·.1) → t ∈ (mergeP l more).map (·.1)
  | [], l, h => by
    rcases h with h | h
    · exact h
    · simp at h
  | p :: r, l, h => by
    refine keys_in r (putP l p.1 p.2) ?_
    rw [keys_put]
    rcases h with h | h
    · left
      split
      · exact h
      · exact List.mem_append_left _ h
    · rw [List.map_cons, List.mem_cons] at h
      rcases h with h | h
      · left
        subst h
        split
        · assumption
        · exact List.mem_append_right _ (by simp)
      · exact .inr h
theorem nodup_of_len : ∀ n, ∀ l : Prs, l.length = n → (mergeP [] l).length = l.length → (l.map (·.1)).Nodup := by
  intro n
  induction n with
  | zero =>
    intro l hl _
    have : l = [] := List.length_eq_zero_iff.mp hl
    subst this
    exact List.Pairwise.nil
  | succ n ih =>
    intro l hl h
    have hne : l ≠ [] := by intro z; subst z; simp at hl
    rw [← List.dropLast_concat_getLast hne] at h ⊢
    have hd : l.dropLast.length = n := by simp [hl]
    generalize l.dropLast = d at *
    generalize l.getLast hne = q at *
    rw [merge_snoc] at h
    have e := congrArg List.length (keys_put (mergeP [] d) q.1 q.2)
    simp only [List.length_map] at e
    have hb := len_merge d []
    rw [h] at e
    simp only [List.length_append, List.length_cons, List.length_nil] at e hb
    by_cases hq : q.1 ∈ (mergeP [] d).map (·.1)
    · rw [if_pos hq, List.length_map] at e
      omega
    · rw [if_neg hq, List.length_append, List.length_map] at e
      simp only [List.length_cons, List.length_nil] at e
      rw [List.map_append, List.nodup_append]
      refine ⟨ih d hd (by omega), by simp, fun a ha b hb2 => ?_⟩
      simp at hb2
      subst hb2
      intro z
      subst z
      exact hq (keys_in d [] (.inr ha))
theorem IsC.again {l l' c c' : Prs} (h : IsC l c) (nd : (l.map (·.1)).Nodup) (h' : IsC l' c') (nd' : (l'.map (·.1)).Nodup) (hm : ∀ p, p ∈ l' ↔ p ∈ l) : c' = c :=
  up_ext h'.up h.up fun p => by rw [h'.mem, h.mem, last_nodup nd, last_nodup nd', hm]
theorem IsC.self {c c' : Prs} (hc : c.Pairwise fun p q => p.1 < q.1) (h : IsC c c') : c' = c := up_ext h.up hc fun p => by rw [h.mem, last_nodup (up_nodup hc)]
def prsLD (l : Prs) : PyData := .list (l.map pairP)
theorem shp_prsL (l : Prs) : Shp 2 (prsLD l) := Shp.listM (n := 1) shp_pair
theorem shaped_prsL (l : Prs) : SeqAt.shaped (prsLD l) = true := (shp_prsL l).ok
theorem eqv_prsL (l m : Prs) : PyData.eqv (prsLD l) (prsLD m) = decide (l = m) := by
  unfold prsLD
  rw [PyData.eqv]
  exact eqvAll_prs l m
theorem merge_take {l : Prs} {i : Nat} {p : Int × Int} (h : l[i]? = some p) : mergeP [] (l.take (i + 1)) = putP (mergeP [] (l.take i)) p.1 p.2 := by
  rw [take_snoc h, merge_snoc]
theorem dpAll_rev {K : PySem.W.Frag} {H : Hp} : ∀ {ws : List V} {ds : List PyData}, DpAll K H ws ds → DpAll K H ws.reverse ds.reverse
  | _, _, .nil => .nil
  | _, _, .cons h1 h2 => by
    rw [List.reverse_cons, List.reverse_cons]
    exact dpAll_snoc (dpAll_rev h2) h1
theorem out_up {m : Prs} {ys : List Int} (nd : (m.map (·.1)).Nodup) (hp : ys.Perm (m.map (·.1))) (hs : ys.Pairwise (· ≤ ·)) : (outOf m ys).Pairwise fun p q => p.1 < q.1 := by
  unfold outOf
  rw [List.pairwise_map]
  refine List.Pairwise.imp₂ (fun a b h1 h2 => ?_) hs (hp.nodup_iff.mpr nd)
  show a < b
  have : a ≠ b := h2
  omega
theorem out_mem {m : Prs} {ys : List Int} (nd : (m.map (·.1)).Nodup) (hp : ys.Perm (m.map (·.1))) {p : Int × Int} : p ∈ outOf m ys ↔ p ∈ m := by
  unfold outOf
  rw [List.mem_map]
  constructor
  · rintro ⟨t, ht, rfl⟩
    obtain ⟨q, hq, e⟩ := List.mem_map.mp (hp.mem_iff.mp ht)
    have e2 : valP m t = some q.2 := (valP_iff nd).mpr (by rw [← e]; exact hq)
    rw [e2, ← e]
    exact hq
  · intro h
    refine ⟨p.1, hp.mem_iff.mpr (List.mem_map_of_mem h), ?_⟩
    have e2 : valP m p.1 = some p.2 := (valP_iff nd).mpr h
    rw [e2]
    rfl
/-! ### dicts, step by step -/
section
variable {X : Cx} {K : PySem.W.Frag} {σ : St} {H H' : Hp} {Q : VK} {td ty tv te : TE} {nx bk ct : St → Hp → Prop} {rt : VK} {a : Addr} {kvs : List (Key × V)} {k : Key} {v x y : V}
def uDGet (x y : V) (H : Hp) (Q : VK) : Prop := ∃ a v, x = .ref a ∧ DGet H a y (some v) ∧ Q v H
theorem r_dget (q : td σ H fun x H1 => ty σ H1 fun y H2 => uDGet x y H2 Q) : tDGet td ty σ H Q := q
theorem r_dgeti {m : Prs} {t h : Int} (hd : H a = some (.dK (m.map inj))) (e : valP m t = some h) (q : Q (.int h) H) : uDGet (.ref a) (.int t) H Q := by
  refine ⟨a, .int h, rfl, ?_, q⟩
  have z := DGet.k (k := Sum.inl t) hd
  rw [val_inj, e] at z
  exact z
def uDPut (x y v : V) (H : Hp) (R : Hp → Prop) : Prop := ∃ a H4, x = .ref a ∧ DPut H a y v H4 ∧ R H4
theorem r_dput (q : tv σ H fun v H1 => td σ H1 fun x H2 => ty σ H2 fun y H3 => uDPut x y v H3 fun H4 => nx σ H4) : sDPut td ty tv ⟨nx, rt, bk, ct⟩ σ H := q
theorem r_dputi {m : Prs} {t h : Int} {R : Hp → Prop} (hd : H a = some (.dK (m.map inj))) (hl : m.length ≤ 100000) (q : ∀ H', Keep (At a) H H' → H' a = some (.dK ((putP m t h).map inj)) → R H') : uDPut (.ref a) (.int t) (.int h) H R := by
  refine ⟨a, _, rfl, DPut.k (k := Sum.inl t) hd (by rw [sizeLine_eq, List.length_map]; omega), q _ Keep.at_ ?_⟩
  rw [upd_same, put_inj]
theorem r_dnew (q : ∀ p H', H p = none → Same H H' → H' p = some (.dK []) → Q (.ref p) H') : tDNewK σ H Q := fun p hp => q p _ hp (Keep.same (Keep.new hp)) upd_same
def uDictP (K : PySem.W.Frag) : List V → Hp → VK → Prop := fun xs H Q => ∃ (a : Addr) (ps : List Addr) (kvs : List (Key × V)), xs = [.ref a] ∧ SqL K H a (ps.map V.ref) ∧ Paired (fun p kv => SqT K H p [kV kv.1, kv.2]) ps kvs ∧ ∀ p, H p = none → Q (.ref p) (upd H p (.dK (mergeK [] kvs)))
theorem c_dictP (hcalm : X.calm = true) : CallR X (.type "dict") (uDictP X.K) := call_dictP hcalm
theorem dp_pairs : ∀ {ws : List V} {l : Prs}, DpAll K H ws (l.map pairP) → ∃ ps : List Addr, ws = ps.map V.ref ∧ Paired (fun p kv => SqT K H p [kV kv.1, kv.2]) ps (l.map inj)
  | _, [], .nil => ⟨[], rfl, .nil⟩
  | _, p :: l, .cons h1 h2 => by
    obtain ⟨b, rfl, hb⟩ := dp_pair h1
    obtain ⟨ps, rfl, hp⟩ := dp_pairs h2
    exact ⟨b :: ps, rfl, .cons hb hp⟩
theorem r_dict {l : Prs} {ws : List V} (h : SqL K H a ws) (hd : DpAll K H ws (l.map pairP)) (q : ∀ p H', H p = none → Same H H' → H' p = some (.dK ((mergeP [] l).map inj)) → Q (.ref p) H') : uDictP K [.ref a] H Q := by
  obtain ⟨ps, rfl, hp⟩ := dp_pairs hd
  refine ⟨a, ps, l.map inj, rfl, h, hp, fun p hn => q p _ hn (Keep.same (Keep.new hn)) ?_⟩
  rw [upd_same]
  congr 2
  exact merge_inj l []
def uSortedD : List V → Hp → VK → Prop := fun xs H Q => ∃ (a : Addr) (kvs : List (Key × V)) (ks : List Int), xs = [.ref a] ∧ Rd H a (.dK kvs) ∧ kvs.map (·.1) = ks.map Sum.inl ∧ ks.length < 64 ∧
    ∀ (ys : List Int) (p : Addr), ys.Perm ks → ys.Pairwise (· ≤ ·) → H p = none → Q (.ref p) (upd H p (.lst (ys.map V.int)))
theorem c_sortedD (hcalm : X.calm = true) : CallR X (.builtin "sorted") uSortedD := call_sortedDI hcalm
theorem r_sortedD {m : Prs} (hd : H a = some (.dK (m.map inj))) (hl : m.length < 64) (q : ∀ (ys : List Int) p H', ys.Perm (m.map (·.1)) → ys.Pairwise (· ≤ ·) → H p = none → Same H H' → H' p = some (.lst (ys.map V.int)) → Q (.ref p) H') : uSortedD [.ref a] H Q :=
  ⟨a, m.map inj, m.map (·.1), rfl, .inl hd, by rw [List.map_map, List.map_map]; rfl, by simpa using hl, fun ys p h1 h2 h3 => q ys p _ h1 h2 h3 (Keep.same (Keep.new h3)) upd_same⟩
end
/-! ### parts of a curve -/
def partL (c : Prs) (b e : Int) : Prs := c.filter fun p => decide (b ≤ p.1) && decide (p.1 < e)
theorem partL_app {c : Prs} {a b d : Int} (hc : c.Pairwise fun p q => p.1 < q.1) (h1 : a ≤ b) (h2 : b ≤ d) : partL c a b ++ partL c b d = partL c a d := by
  induction c with
  | nil => rfl
  | cons p r ih =>
    obtain ⟨c1, c2⟩ := List.pairwise_cons.mp hc
    have ih := ih c2
    unfold partL at *
    by_cases h3 : p.1 < b
    · have e2 : (p :: r).filter (fun p => decide (b ≤ p.1) && decide (p.1 < d)) = r.filter (fun p => decide (b ≤ p.1) && decide (p.1 < d)) := List.filter_cons_of_neg (by simp; omega)
      rw [e2]
      by_cases h4 : a ≤ p.1
      · rw [List.filter_cons_of_pos (by simp; omega), List.filter_cons_of_pos (by simp; omega)]
        simp only [List.cons_append]
        rw [← ih]
      · rw [List.filter_cons_of_neg (by simp; omega), List.filter_cons_of_neg (by simp; omega)]
        exact ih
    · have e1 : r.filter (fun p => decide (a ≤ p.1) && decide (p.1 < b)) = [] := by
        rw [List.filter_eq_nil_iff]
        intro q hq
        have := c1 q hq
        simp
        omega
      rw [List.filter_cons_of_neg (by simp; omega), e1, List.nil_append]
      rw [e1, List.nil_append] at ih
      by_cases h4 : p.1 < d
      · rw [List.filter_cons_of_pos (by simp; omega), List.filter_cons_of_pos (by simp; omega), ih]
      · rw [List.filter_cons_of_neg (by simp; omega), List.filter_cons_of_neg (by simp; omega), ih]
theorem partL_self (c : Prs) (a b : Int) : partL (partL c a b) a b = partL c a b := by
  unfold partL
  rw [List.filter_filter]
  simp
theorem partL_len (c : Prs) (a b : Int) : (partL c a b).length ≤ c.length := List.length_filter_le _ _
theorem zip_up {c : Prs} (h : c.Pairwise fun p q => p.1 < q.1) : ∀ pq ∈ c.zip (c.drop 1), pq.1.1 < pq.2.1 := by
  intro pq hpq
  obtain ⟨i, hi⟩ := List.getElem?_of_mem hpq
  rw [List.getElem?_zip_eq_some] at hi
  obtain ⟨h1, h2⟩ := hi
  rw [List.getElem?_drop] at h2
  obtain ⟨i1, e1⟩ := List.getElem?_eq_some_iff.mp h1
  obtain ⟨i2, e2⟩ := List.getElem?_eq_some_iff.mp h2
  have := List.pairwise_iff_getElem.mp h i (1 + i) i1 i2 (by omega)
  rw [e1, e2] at this
  exact this
/-! ### pairs that stand in memory as tuples -/
def RawP (H : Hp) (ws : List V) (l : Prs) : Prop := Paired (fun v (q : Int × Int) => ∃ a, v = V.ref a ∧ H a = some (.tup [.int q.1, .int q.2])) ws l
theorem RawP.keep {F : Addr → Prop} {H H' : Hp} {ws : List V} {l : Prs} (h : RawP H ws l) (k : Keep F H H') (m : ∀ b, F b → Mut (H b)) : RawP H' ws l :=
  Paired.mapP h fun v q ⟨a, e, z⟩ => ⟨a, e, k a _ z fun n => by have := m a n; rw [z] at this; exact this⟩
theorem RawP.same {H H' : Hp} {ws : List V} {l : Prs} (h : RawP H ws l) (s : Same H H') : RawP H' ws l := Paired.mapP h fun v q ⟨a, e, z⟩ => ⟨a, e, s a _ z⟩
theorem RawP.dp {K : PySem.W.Frag} {H : Hp} : ∀ {ws : List V} {l : Prs}, RawP H ws l → DpAll K H ws (l.map pairP)
  | _, _, .nil => .nil
  | _, _, .cons ⟨a, e, z⟩ h => by
    subst e
    exact .cons (dp_of_pair (SqT.of z)) (RawP.dp h)
theorem RawP.len {H : Hp} {ws : List V} {l : Prs} (h : RawP H ws l) : ws.length = l.length := Paired.length h
theorem RawP.at_ {H : Hp} : ∀ {ws : List V} {l : Prs}, RawP H ws l → ∀ {i : Nat} {x : V}, ws[i]? = some x → ∃ q a, l[i]? = some q ∧ x = V.ref a ∧ H a = some (.tup [.int q.1, .int q.2])
  | _, _, .nil, i, x, h => by simp at h
  | _, _, .cons (b := q) ⟨a, e, z⟩ r, 0, x, h => by
    have e2 := Option.some.inj h
    subst e2
    exact ⟨q, a, rfl, e, z⟩
  | _, _, .cons _ r, i + 1, x, h => RawP.at_ r (i := i) (x := x) h
/-! ### bounds -/
/-- numbers that the laws draw -/
def big : Int := 1000000000000000000000000000000000000000000000000000000000000
structure Bd (p : Int × Int) : Prop where
  t : -big ≤ p.1 ∧ p.1 ≤ big
  h : -big ≤ p.2 ∧ p.2 ≤ big
end Fp
/-! stretches of times, in plain numbers -/
namespace Fp
open PySem PySem.Spec PyProof.Rows L2
def lvlF (b e : Int) : Nat → Nat → Nat
  | 0, l => l
  | n + 1, l => if b % 2 ^ (l + 1) = 0 ∧ b + 2 ^ (l + 1) ≤ e then lvlF b e n (l + 1) else l
def lvl (b e : Int) : Nat := lvlF b e 40 0
theorem two_mono {n m : Nat} (h : n ≤ m) : (2 : Int) ^ n ≤ 2 ^ m := by
  obtain ⟨k, rfl⟩ := Nat.exists_eq_add_of_le h
  rw [Int.pow_add]
  have h1 := two_pos n
  have h2 := two_pos k
  have : (2 : Int) ^ n * 1 ≤ 2 ^ n * 2 ^ k := Int.mul_le_mul_of_nonneg_left (by omega) (by omega)
  omega
theorem two_lt {n m : Nat} (h : (2 : Int) ^ n < 2 ^ m) : n < m := by
  rcases Nat.lt_or_ge n m with z | z
  · exact z
  · have := two_mono z; omega
theorem two_dvd {n m : Nat} (h : n ≤ m) : (2 : Int) ^ n ∣ 2 ^ m := by
  obtain ⟨k, rfl⟩ := Nat.exists_eq_add_of_le h
  rw [Int.pow_add]
  exact Int.dvd_mul_right ..
theorem lvlF_facts (b e : Int) : ∀ n l, n + l = 40 → b % 2 ^ l = 0 → b + 2 ^ l ≤ e → lvlF b e n l ≤ 40 ∧ b % 2 ^ lvlF b e n l = 0 ∧ b + 2 ^ lvlF b e n l ≤ e ∧ (lvlF b e n l < 40 → ¬ (b % 2 ^ (lvlF b e n l + 1) = 0 ∧ b + 2 ^ (lvlF b e n l + 1) ≤ e))
  | 0, l, h, h1, h2 => ⟨by unfold lvlF; omega, by unfold lvlF; exact h1, by unfold lvlF; exact h2, by unfold lvlF; omega⟩
  | n + 1, l, h, h1, h2 => by
    unfold lvlF
    by_cases c : b % 2 ^ (l + 1) = 0 ∧ b + 2 ^ (l + 1) ≤ e
    · rw [if_pos c]
      exact lvlF_facts b e n (l + 1) (by omega) c.1 c.2
    · rw [if_neg c]
      exact ⟨by omega, h1, h2, fun _ => c⟩
theorem lvlF_le (b e : Int) : ∀ n l, lvlF b e n l ≤ n + l
  | 0, l => by unfold lvlF; omega
  | n + 1, l => by
    unfold lvlF
    split
    · have := lvlF_le b e n (l + 1); omega
    · omega
theorem lvl_le (b e : Int) : lvl b e ≤ 40 := lvlF_le b e 40 0
theorem lvl_facts {b e : Int} (h : b < e) : b % 2 ^ lvl b e = 0 ∧ b + 2 ^ lvl b e ≤ e ∧ (lvl b e < 40 → ¬ (b % 2 ^ (lvl b e + 1) = 0 ∧ b + 2 ^ (lvl b e + 1) ≤ e)) :=
  (lvlF_facts b e 40 0 rfl (by simp) (by simp; omega)).2
/-- the stretches -/
def strF (e : Int) : Nat → Int → Prs
  | 0, _ => []
  | n + 1, b => if b < e then ((lvl b e : Int), b / 2 ^ lvl b e) :: strF e n (b + 2 ^ lvl b e) else []
def strL (b e : Int) : Prs := strF e (e - b).toNat b
theorem strF_fuel (e : Int) : ∀ n m b, (e - b).toNat ≤ n → (e - b).toNat ≤ m → strF e n b = strF e m b
  | 0, 0, _, _, _ => rfl
  | 0, m + 1, b, h, _ => by unfold strF; rw [if_neg (by omega)]
  | n + 1, 0, b, _, h => by unfold strF; rw [if_neg (by omega)]
  | n + 1, m + 1, b, h1, h2 => by
    unfold strF
    have := two_pos (lvl b e)
    split
    · rw [strF_fuel e n m _ (by omega) (by omega)]
    · rfl
theorem str_nil {b e : Int} (h : ¬ b < e) : strL b e = [] := by
  unfold strL
  rw [show (e - b).toNat = 0 by omega]
  rfl
theorem str_cons {b e : Int} (h : b < e) : strL b e = ((lvl b e : Int), b / 2 ^ lvl b e) :: strL (b + 2 ^ lvl b e) e := by
  have := two_pos (lvl b e)
  unfold strL
  obtain ⟨n, hn⟩ : ∃ n, (e - b).toNat = n + 1 := ⟨(e - b).toNat - 1, by omega⟩
  rw [hn]
  show (if b < e then ((lvl b e : Int), b / 2 ^ lvl b e) :: strF e n (b + 2 ^ lvl b e) else []) = _
  rw [if_pos h, strF_fuel e n (e - (b + 2 ^ lvl b e)).toNat _ (by omega) (by omega)]
theorem str_fall : ∀ k, k ≤ 40 → ∀ b e : Int, (2 : Int) ^ k ∣ b → e - b < 2 ^ k → (strL b e).length ≤ k := by
  intro k
  induction k using Nat.strongRecOn with
  | _ k ih =>
    intro hk b e hd hl
    by_cases h : b < e
    · obtain ⟨h1, h2, h3⟩ := lvl_facts h
      have hlk : lvl b e < k := two_lt (by omega)
      have h4 := h3 (by omega)
      have h5 : (2 : Int) ^ (lvl b e + 1) ∣ b := Int.dvd_trans (two_dvd hlk) hd
      have h6 : ¬ b + 2 ^ (lvl b e + 1) ≤ e := fun z => h4 ⟨Int.emod_eq_zero_of_dvd h5, z⟩
      rw [two_succ] at h6
      rw [str_cons h, List.length_cons]
      have := ih _ hlk (by omega) (b + 2 ^ lvl b e) e (Int.dvd_add (Int.dvd_of_emod_eq_zero h1) (Int.dvd_refl _)) (by omega)
      omega
    · rw [str_nil h]; simp
theorem dvd_next {l : Nat} {b : Int} (h1 : b % 2 ^ l = 0) (h2 : ¬ b % 2 ^ (l + 1) = 0) : (2 : Int) ^ (l + 1) ∣ b + 2 ^ l := by
  obtain ⟨m, rfl⟩ := Int.dvd_of_emod_eq_zero h1
  have hm : m % 2 = 1 := by
    rcases Int.emod_two_eq m with z | z
    · exfalso
      apply h2
      obtain ⟨j, rfl⟩ := Int.dvd_of_emod_eq_zero z
      rw [← Int.mul_assoc, ← Int.pow_succ]
      exact Int.mul_emod_right _ _
    · exact z
  refine ⟨(m + 1) / 2, ?_⟩
  rw [Int.pow_succ, Int.mul_assoc]
  have : 2 * ((m + 1) / 2) = m + 1 := by omega
  rw [this, Int.mul_add, Int.mul_one]
theorem str_rise : ∀ j k : Nat, j + k = 40 → ∀ b e : Int, (2 : Int) ^ k ∣ b → -(2 ^ 40) < b → e ≤ 2 ^ 40 → (strL b e).length ≤ 80 - k := by
  intro j
  induction j using Nat.strongRecOn with
  | _ j ih =>
    intro k hj b e hd hb he
    by_cases h : b < e
    · obtain ⟨h1, h2, h3⟩ := lvl_facts h
      have hle := lvl_le b e
      rw [str_cons h, List.length_cons]
      by_cases hl : lvl b e < 40
      · have h4 := h3 hl
        by_cases h5 : b + 2 ^ (lvl b e + 1) ≤ e
        · have h6 : ¬ b % 2 ^ (lvl b e + 1) = 0 := fun z => h4 ⟨z, h5⟩
          have hkl : k ≤ lvl b e := by
            rcases Nat.lt_or_ge (lvl b e) k with z | z
            · exact absurd (Int.emod_eq_zero_of_dvd (Int.dvd_trans (two_dvd z) hd)) h6
            · exact z
          have := two_pos (lvl b e)
          have := ih (40 - (lvl b e + 1)) (by omega) (lvl b e + 1) (by omega) (b + 2 ^ lvl b e) e (dvd_next h1 h6) (by omega) he
          omega
        · rw [two_succ] at h5
          have := str_fall (lvl b e) (by omega) (b + 2 ^ lvl b e) e (Int.dvd_add (Int.dvd_of_emod_eq_zero h1) (Int.dvd_refl _)) (by omega)
          omega
      · have e40 : lvl b e = 40 := by omega
        rw [e40] at h1 h2 ⊢
        rw [str_nil (by omega)]
        simp
        omega
    · rw [str_nil h]; simp
theorem str_len {b e : Int} (hb : -(2 ^ 40) ≤ b) (he : e ≤ 2 ^ 40) : (strL b e).length ≤ 80 := by
  by_cases h0 : b = -(2 ^ 40)
  · subst h0
    by_cases h : (-(2 ^ 40) : Int) < e
    · obtain ⟨h1, h2, h3⟩ := lvl_facts h
      have hle := lvl_le (-(2 ^ 40)) e
      rw [str_cons h, List.length_cons]
      generalize lvl (-(2 ^ 40)) e = l at *
      by_cases hl : l < 40
      · have h4 := h3 hl
        have h5 : ¬ -(2 ^ 40) + 2 ^ (l + 1) ≤ e := fun z => h4 ⟨Int.emod_eq_zero_of_dvd (Int.dvd_neg.mpr (two_dvd (by omega))), z⟩
        rw [two_succ] at h5
        have := str_fall l (by omega) (-(2 ^ 40) + 2 ^ l) e (Int.dvd_add (Int.dvd_of_emod_eq_zero h1) (Int.dvd_refl _)) (by omega)
        omega
      · have e40 : l = 40 := by omega
        subst e40
        have := str_rise 0 40 rfl (-(2 ^ 40) + 2 ^ 40) e ⟨0, by omega⟩ (by omega) he
        omega
    · rw [str_nil h]; simp
  · exact str_rise 40 0 rfl b e (by rw [Int.pow_zero]; exact Int.one_dvd b) (by omega) he
theorem str_mem {e : Int} : ∀ n : Nat, ∀ b : Int, (strL b e).length = n → ∀ q ∈ strL b e, ∃ l : Nat, l ≤ 40 ∧ q.1 = (l : Int) := by
  intro n
  induction n with
  | zero =>
    intro b h q hq
    rw [List.length_eq_zero_iff.mp h] at hq
    simp at hq
  | succ n ih =>
    intro b h q hq
    by_cases hb : b < e
    · rw [str_cons hb] at h hq
      rcases List.mem_cons.mp hq with rfl | hq
      · exact ⟨_, lvl_le b e, rfl⟩
      · exact ih _ (by simpa using h) q hq
    · rw [str_nil hb] at h
      simp at h
end Fp
/-! fours: first, last, lowest, highest; tables of fours by stretches -/
namespace Fp
open PySem PySem.Spec PyProof.Rows L2
structure Four where
  f : Int × Int
  l : Int × Int
  lo : Int × Int
  hi : Int × Int
def four4 (F : Four) : PyData := .tuple [pairP F.f, pairP F.l, pairP F.lo, pairP F.hi]
def fourD : Option Four → PyData
  | none => .none
  | some F => four4 F
theorem imm_four (F : Option Four) : imm (fourD F) = true := by
  cases F with
  | none => rfl
  | some F => simp [fourD, four4, imm, immAll, imm_pair]
theorem dp4 {K : PySem.W.Frag} {H : Hp} {ws : List V} {a b c d : PyData} (h : DpAll K H ws [a, b, c, d]) : ∃ w x y z, ws = [w, x, y, z] ∧ Dp K H w a ∧ Dp K H x b ∧ Dp K H y c ∧ Dp K H z d := by
  cases h with
  | cons h1 h =>
    cases h with
    | cons h2 h =>
      cases h with
      | cons h3 h =>
        cases h with
        | cons h4 h =>
          cases h
          exact ⟨_, _, _, _, rfl, h1, h2, h3, h4⟩
theorem shp_four (F : Option Four) : Shp 2 (fourD F) := by
  cases F with
  | none => exact .none
  | some F => exact Shp.t4 (shp_pair _) (shp_pair _) (shp_pair _) (shp_pair _)
def lowP (a b : Int × Int) : Int × Int := if b.2 < a.2 then b else a
def highP (a b : Int × Int) : Int × Int := if b.2 > a.2 then b else a
def joinF : Option Four → Option Four → Option Four
  | none, b => b
  | some a, none => some a
  | some a, some b => some ⟨a.f, b.l, lowP a.lo b.lo, highP a.hi b.hi⟩
theorem lowP_assoc (a b c : Int × Int) : lowP (lowP a b) c = lowP a (lowP b c) := by
  unfold lowP
  by_cases h1 : b.2 < a.2 <;> by_cases h2 : c.2 < b.2 <;> by_cases h3 : c.2 < a.2 <;> simp [h1, h2, h3] <;> (exfalso; omega)
theorem highP_assoc (a b c : Int × Int) : highP (highP a b) c = highP a (highP b c) := by
  unfold highP
  by_cases h1 : b.2 > a.2 <;> by_cases h2 : c.2 > b.2 <;> by_cases h3 : c.2 > a.2 <;> simp [h1, h2, h3] <;> (exfalso; omega)
theorem joinF_none (a : Option Four) : joinF a none = a := by cases a <;> rfl
theorem joinF_assoc (a b c : Option Four) : joinF (joinF a b) c = joinF a (joinF b c) := by
  cases a with
  | none => rfl
  | some a =>
    cases b with
    | none => rfl
    | some b =>
      cases c with
      | none => rfl
      | some c => simp only [joinF, lowP_assoc, highP_assoc]
def oneF (p : Int × Int) : Option Four := some ⟨p, p, p, p⟩
def fourL (c : Prs) : Option Four := c.foldl (fun a p => joinF a (oneF p)) none
theorem fold_join (c : Prs) : ∀ a : Option Four, c.foldl (fun a p => joinF a (oneF p)) a = joinF a (fourL c) := by
  induction c with
  | nil => intro a; exact (joinF_none a).symm
  | cons p r ih =>
    intro a
    show r.foldl (fun a p => joinF a (oneF p)) (joinF a (oneF p)) = joinF a (r.foldl (fun a p => joinF a (oneF p)) (joinF none (oneF p)))
    rw [ih, ih, joinF_assoc]
    rfl
theorem fourL_app (c d : Prs) : fourL (c ++ d) = joinF (fourL c) (fourL d) := by
  show (c ++ d).foldl (fun a p => joinF a (oneF p)) none = _
  rw [List.foldl_append, fold_join]
  rfl
theorem fourL_nil : fourL [] = none := rfl
theorem fourL_one (p : Int × Int) : fourL [p] = oneF p := rfl
theorem fourL_cons (p : Int × Int) (c : Prs) : fourL (p :: c) = joinF (oneF p) (fourL c) := fourL_app [p] c
theorem fourL_none {c : Prs} (h : fourL c = none) : c = [] := by
  cases c with
  | nil => rfl
  | cons p r =>
    rw [fourL_cons] at h
    unfold oneF at h
    cases e : fourL r with
    | none => rw [e] at h; cases h
    | some F => rw [e] at h; cases h
theorem fold_some (r : Prs) : ∀ F : Four, r.foldl (fun a p => joinF a (oneF p)) (some F) = some ⟨F.f, (r.getLast?).getD F.l, r.foldl lowP F.lo, r.foldl highP F.hi⟩ := by
  induction r with
  | nil => intro F; rfl
  | cons p r ih =>
    intro F
    show r.foldl (fun a p => joinF a (oneF p)) (some ⟨F.f, p, lowP F.lo p, highP F.hi p⟩) = _
    rw [ih]
    cases r with
    | nil => rfl
    | cons q r =>
      have e : ∀ z : Int × Int, ((q :: r).getLast?).getD z = (q :: r).getLast (by simp) := fun z => by rw [List.getLast?_eq_some_getLast (by simp)]; rfl
      have e2 : ((p :: q :: r).getLast?).getD F.l = (q :: r).getLast (by simp) := by rw [List.getLast?_eq_some_getLast (by simp)]; rfl
      rw [e2]
      show some (Four.mk F.f (((q :: r).getLast?).getD p) _ _) = _
      rw [e]
      rfl
theorem fourL_eq (f : Int × Int) (r : Prs) : fourL (f :: r) = some ⟨f, (r.getLast?).getD f, r.foldl lowP f, r.foldl highP f⟩ := fold_some r ⟨f, f, f, f⟩
theorem lowP_self (f : Int × Int) : lowP f f = f := by unfold lowP; split <;> rfl
theorem highP_self (f : Int × Int) : highP f f = f := by unfold highP; split <;> rfl
/-! ### the times of a stretch -/
def seg (c : Prs) (l : Nat) (s : Int) : Prs := partL c (s * 2 ^ l) (s * 2 ^ l + 2 ^ l)
theorem seg_succ {c : Prs} (hc : c.Pairwise fun p q => p.1 < q.1) (l : Nat) (s : Int) : seg c (l + 1) s = seg c l (2 * s) ++ seg c l (2 * s + 1) := by
  have h := two_pos l
  have e1 : s * 2 ^ (l + 1) = 2 * s * 2 ^ l := by rw [two_succ, ← Int.mul_assoc, Int.mul_comm s 2]
  have e2 : (2 * s + 1) * 2 ^ l = 2 * s * 2 ^ l + 2 ^ l := by rw [Int.add_mul, Int.one_mul]
  unfold seg
  rw [e1, e2, partL_app hc (by omega) (by omega), two_succ]
  congr 1
  omega
theorem partL_none {c : Prs} {b e : Int} (h : ¬ b < e) : partL c b e = [] := by
  unfold partL
  rw [List.filter_eq_nil_iff]
  intro p _
  simp
  omega
/-- the stretches' fours, joined -/
theorem str_four {c : Prs} (hc : c.Pairwise fun p q => p.1 < q.1) (e : Int) : ∀ n : Nat, ∀ b : Int, (strL b e).length = n → (strL b e).foldl (fun a p => joinF a (fourL (seg c p.1.toNat p.2))) none = fourL (partL c b e) := by
  have gen : ∀ (l : Prs) (a : Option Four), l.foldl (fun a p => joinF a (fourL (seg c p.1.toNat p.2))) a = joinF a (l.foldl (fun a p => joinF a (fourL (seg c p.1.toNat p.2))) none) := by
    intro l
    induction l with
    | nil => intro a; exact (joinF_none a).symm
    | cons p r ih =>
      intro a
      simp only [List.foldl_cons]
      rw [ih, ih (joinF none _), joinF_assoc]
      rfl
  intro n
  induction n with
  | zero =>
    intro b h
    have hb : ¬ b < e := fun z => by rw [str_cons z] at h; simp at h
    rw [str_nil hb, partL_none hb]
    rfl
  | succ n ih =>
    intro b h
    by_cases hb : b < e
    · obtain ⟨h1, h2, _⟩ := lvl_facts hb
      have hm : b / 2 ^ lvl b e * 2 ^ lvl b e = b := Int.ediv_mul_cancel_of_emod_eq_zero h1
      have hp := two_pos (lvl b e)
      rw [str_cons hb] at h ⊢
      simp only [List.length_cons, Nat.add_right_cancel_iff] at h
      rw [List.foldl_cons, gen, ih _ h]
      show joinF (joinF none (fourL (seg c ((lvl b e : Nat) : Int).toNat (b / 2 ^ lvl b e)))) _ = _
      rw [show ((lvl b e : Nat) : Int).toNat = lvl b e from rfl]
      unfold seg
      rw [hm]
      show joinF (fourL (partL c b (b + 2 ^ lvl b e))) _ = _
      rw [← fourL_app, partL_app hc (by omega) h2]
    · rw [str_nil hb] at h
      simp at h
/-! ### tables of fours by stretches -/
def skey (l : Nat) (s : Int) : List Key := [Sum.inl (l : Int), Sum.inl s]
theorem skey_inj {l l' : Nat} {s s' : Int} : skey l s = skey l' s' ↔ l = l' ∧ s = s' := by
  unfold skey
  simp
  intro _
  omega
inductive Fits (K : PySem.W.Frag) (H : Hp) : Option V → Option Four → Prop
  | none : Fits K H none none
  | some {v : V} {F : Four} : Dp K H v (four4 F) → Fits K H (some v) (some F)
theorem Fits.text {K : PySem.W.Frag} {H H' : Hp} {o : Option V} {F : Option Four} (h : Fits K H o F) (e : TExt H H') : Fits K H' o F := by
  cases h with
  | none => exact .none
  | some d => exact .some (Dp.text e _ _ (imm_four (Option.some _)) d)
theorem Fits.getD {K : PySem.W.Frag} {H : Hp} {o : Option V} {F : Option Four} (h : Fits K H o F) : Dp K H (o.getD .non) (fourD F) := by
  cases h with
  | none => exact .non
  | some d => exact d
/-- below level k the fours of c', from there on those of c -/
def Mix (K : PySem.W.Frag) (H : Hp) (kvs : List (List Key × V)) (c c' : Prs) (k : Nat) : Prop :=
  ∀ (l : Nat) (s : Int), l ≤ 40 → Fits K H (valV kvs (skey l s)) (fourL (seg (if l < k then c' else c) l s))
abbrev FourInv (K : PySem.W.Frag) (H : Hp) (kvs : List (List Key × V)) (c : Prs) : Prop := Mix K H kvs c c 0
theorem Mix.text {K : PySem.W.Frag} {H H' : Hp} {kvs : List (List Key × V)} {c c' : Prs} {k : Nat} (h : Mix K H kvs c c' k) (e : TExt H H') : Mix K H' kvs c c' k := fun l s hl => (h l s hl).text e
theorem Mix.zero {K : PySem.W.Frag} {H : Hp} {kvs : List (List Key × V)} {c : Prs} (c' : Prs) (h : FourInv K H kvs c) : Mix K H kvs c c' 0 := fun l s hl => by
  have := h l s hl
  rw [if_neg (by omega)] at this ⊢
  exact this
theorem Mix.full {K : PySem.W.Frag} {H : Hp} {kvs : List (List Key × V)} {c c' : Prs} (h : Mix K H kvs c c' 41) : FourInv K H kvs c' := fun l s hl => by
  have := h l s hl
  rw [if_pos (by omega)] at this
  rw [if_neg (by omega)]
  exact this
/-- c and c' differ at t at most -/
def Beside (t : Int) (c c' : Prs) : Prop := ∀ b e : Int, ¬ (b ≤ t ∧ t < e) → partL c' b e = partL c b e
theorem seg_beside {t : Int} {c c' : Prs} (h : Beside t c c') {l : Nat} {s : Int} (hs : s ≠ t / 2 ^ l) : seg c' l s = seg c l s := by
  refine h _ _ fun z => hs ?_
  exact (div_is (two_pos l) z.1 z.2).symm
/-- one more level is done: what stands at the stretch of t is the four of c' -/
theorem Mix.step {K : PySem.W.Frag} {H H' : Hp} {kvs kvs' : List (List Key × V)} {c c' : Prs} {t : Int} {k : Nat} (hb : Beside t c c') (h : Mix K H kvs c c' k) (e : TExt H H')
    (hv : ∀ j, j ≠ skey k (t / 2 ^ k) → valV kvs' j = valV kvs j) (hn : Fits K H' (valV kvs' (skey k (t / 2 ^ k))) (fourL (seg c' k (t / 2 ^ k)))) : Mix K H' kvs' c c' (k + 1) := by
  intro l s hl
  by_cases hk : skey l s = skey k (t / 2 ^ k)
  · obtain ⟨rfl, rfl⟩ := skey_inj.mp hk
    rw [if_pos (by omega)]
    exact hn
  · rw [hv _ hk]
    have := (h l s hl).text e
    by_cases h1 : l < k
    · rw [if_pos h1] at this
      rw [if_pos (by omega)]
      exact this
    · rw [if_neg h1] at this
      by_cases h2 : l = k
      · rw [if_pos (by omega), seg_beside hb (fun z => hk (skey_inj.mpr ⟨h2, by rw [z, h2]⟩))]
        exact this
      · rw [if_neg (by omega)]
        exact this
/-- the two that are joined at the next level -/
theorem Mix.two {K : PySem.W.Frag} {H : Hp} {kvs : List (List Key × V)} {c c' : Prs} {k : Nat} (h : Mix K H kvs c c' (k + 1)) (hk : k < 40) (s : Int) :
    Fits K H (valV kvs (skey k (2 * s))) (fourL (seg c' k (2 * s))) ∧ Fits K H (valV kvs (skey k (2 * s + 1))) (fourL (seg c' k (2 * s + 1))) := by
  have h1 := h k (2 * s) (by omega)
  have h2 := h k (2 * s + 1) (by omega)
  rw [if_pos (by omega)] at h1 h2
  exact ⟨h1, h2⟩
theorem seg_zero_mem {c : Prs} (hc : c.Pairwise fun p q => p.1 < q.1) {t h : Int} (hm : (t, h) ∈ c) : seg c 0 t = [(t, h)] := by
  refine up_ext (hc.sublist List.filter_sublist) (List.pairwise_singleton _ _) fun p => ?_
  unfold seg partL
  rw [List.mem_filter, List.mem_singleton]
  simp only [Int.pow_zero, Int.mul_one, Bool.and_eq_true, decide_eq_true_eq]
  constructor
  · rintro ⟨hp, h1, h2⟩
    have e1 := (valP_iff (up_nodup hc)).mpr (show (t, h) ∈ c from hm)
    have e2 := (valP_iff (up_nodup hc)).mpr (show (t, p.2) ∈ c by rw [show (t, p.2) = p from Prod.ext (by show t = p.1; omega) rfl]; exact hp)
    rw [e1] at e2
    exact Prod.ext (by show p.1 = t; omega) (Option.some.inj e2).symm
  · rintro rfl
    exact ⟨hm, by omega, by omega⟩
theorem seg_zero_not {c : Prs} {t : Int} (hm : ∀ p ∈ c, p.1 ≠ t) : seg c 0 t = [] := by
  unfold seg partL
  rw [List.filter_eq_nil_iff]
  intro p hp
  have := hm p hp
  simp
  omega
theorem in_stretch (t : Int) (l : Nat) : t / 2 ^ l * 2 ^ l ≤ t ∧ t < t / 2 ^ l * 2 ^ l + 2 ^ l := by
  have hp := two_pos l
  have h1 := Int.ediv_mul_le t (b := 2 ^ l) (by omega)
  have h2 := Int.lt_ediv_add_one_mul_self t hp
  rw [Int.add_mul, Int.one_mul] at h2
  exact ⟨h1, h2⟩
theorem seg_has {c : Prs} {t h : Int} (hm : (t, h) ∈ c) (l : Nat) : (t, h) ∈ seg c l (t / 2 ^ l) := by
  obtain ⟨h1, h2⟩ := in_stretch t l
  unfold seg partL
  rw [List.mem_filter]
  exact ⟨hm, by simp only [Bool.and_eq_true, decide_eq_true_eq]; exact ⟨h1, h2⟩⟩
theorem Fits.of_some {K : PySem.W.Frag} {H : Hp} {v : V} {F : Option Four} (d : Dp K H v (fourD F)) (h : F ≠ Option.none) : Fits K H (Option.some v) F := by
  cases F with
  | none => exact absurd rfl h
  | some F => exact .some d
end Fp
/-! classes of the program: methods, making, fields; dicts by tuples -/
namespace Fp
open PySem PySem.Spec PyProof.Rows L2
/-- a class without bases at the module's name x -/
structure ClT (K : PySem.W.Frag) (mg : Str → Option Value) (x : Str) (C : Addr) : Prop where
  g : mg x = some (.ref C)
  cl : Cls K C
  mks : PySem.W.makesIn K C = true
  kp : PySem.W.keepIn K (.ref C) = true
structure MDef (K : PySem.W.Frag) (C : Addr) (m qual : Str) (st : Stmt) (ps : List Str) : Prop where
  ex : ∃ f fd, Fun K m qual st f fd ∧ Meth K C m f ∧ Binds K fd ps []
structure MFn (P : Program) (w : World) (K : PySem.W.Frag) (mg : Str → Option Value) (base : Heap) (k : Nat) (C : Addr) (m : Str) (ps : List Str) (sp : Sp) : Prop where
  ex : ∃ f fd, Meth K C m f ∧ Binds K fd ps [] ∧ FnOk P w K mg base (L2.CX P w) k f fd ps sp
/-- an __init__ whose last parameter has the default None -/
structure IDef (K : PySem.W.Frag) (C : Addr) (qual : Str) (st : Stmt) (ps : List Str) : Prop where
  ex : ∃ f fd, FunD K "__init__" qual (defArgs st) (defBody st) (defScope st) [.non] [] f fd ∧ Mk K C f ∧ Binds K fd ps [] ∧ KBn K fd ps 1 [ps.getD 1 Str.empty] (fun us ws => us ++ ws) (fun vs zs => vs ++ zs) ∧ ∃ ds, Vals [V.non] ds ∧ Binds K fd ps ds
structure IFn (P : Program) (w : World) (K : PySem.W.Frag) (mg : Str → Option Value) (base : Heap) (k : Nat) (C : Addr) (ps : List Str) (sp : Sp) : Prop where
  ex : ∃ f fd, Mk K C f ∧ Binds K fd ps [] ∧ KBn K fd ps 1 [ps.getD 1 Str.empty] (fun us ws => us ++ ws) (fun vs zs => vs ++ zs) ∧ (∃ ds, Vals [V.non] ds ∧ Binds K fd ps ds) ∧ FnOk P w K mg base (L2.CX P w) k f fd ps sp
/-- an __init__ without defaults -/
structure PDef (K : PySem.W.Frag) (C : Addr) (qual : Str) (st : Stmt) (ps : List Str) : Prop where
  ex : ∃ f fd, Fun K "__init__" qual st f fd ∧ Mk K C f ∧ Binds K fd ps []
structure PFn (P : Program) (w : World) (K : PySem.W.Frag) (mg : Str → Option Value) (base : Heap) (k : Nat) (C : Addr) (ps : List Str) (sp : Sp) : Prop where
  ex : ∃ f fd, Mk K C f ∧ Binds K fd ps [] ∧ FnOk P w K mg base (L2.CX P w) k f fd ps sp
theorem IFn.pos {P : Program} {w : World} {K : PySem.W.Frag} {mg : Str → Option Value} {base : Heap} {k : Nat} {C : Addr} {ps : List Str} {sp : Sp} (G : IFn P w K mg base k C ps sp) : PFn P w K mg base k C ps sp := by
  obtain ⟨f, fd, hm, hb, _, _, F⟩ := G.ex
  exact ⟨f, fd, hm, hb, F⟩
section
variable {P : Program} {w : World} {K : PySem.W.Frag} {mg : Str → Option Value} {base : Heap} {C : Addr}
theorem PDef.ok {qual : Str} {st : Stmt} {N ps : List Str} {k : Nat} {sp : Sp} (D : PDef K C qual st ps) (S : FnScope N ps (defScope st)) (len : ∀ vs H Q E, sp vs H Q E → vs.length = ps.length)
    (hbody : ∀ (f : Addr) (cdv : Value) (A : Around) (outer : List Env) (s : Shared) (H : Hp) (vs : List V) (Q : VK) (E : XK), Room k (A.deeper (envOfC qual (defScope st) s.heap.objs.size f cdv)) → sp vs H Q E →
      ∃ t, PSs (cxOf CX0 P w K mg base N qual (defScope st) f cdv A outer s H E).nox (defBody st) t ∧ t { nx := fun _ H' => Q .non H', rt := Q } (start N vs) H) : PFn P w K mg base (k + 1) C ps sp := by
  obtain ⟨f, fd, F, hm, hb⟩ := D.ex
  exact ⟨f, fd, hm, hb, fn_up (F.ok S len (hbody f))⟩
theorem PDef.okX {qual : Str} {st : Stmt} {N ps : List Str} {k : Nat} {sp : Sp} (D : PDef K C qual st ps) (S : FnScope N ps (defScope st)) (len : ∀ vs H Q E, sp vs H Q E → vs.length = ps.length)
    (hbody : ∀ (f : Addr) (cdv : Value) (A : Around) (outer : List Env) (s : Shared) (H : Hp) (vs : List V) (Q : VK) (E : XK), Room k (A.deeper (envOfC qual (defScope st) s.heap.objs.size f cdv)) → sp vs H Q E →
      ∃ t, PSs (cxOf (L2.CX P w) P w K mg base N qual (defScope st) f cdv A outer s H E) (defBody st) t ∧ t { nx := fun _ H' => Q .non H', rt := Q } (start N vs) H) : PFn P w K mg base (k + 1) C ps sp := by
  obtain ⟨f, fd, F, hm, hb⟩ := D.ex
  exact ⟨f, fd, hm, hb, F.okX S len (hbody f)⟩
theorem MDef.ok {m qual : Str} {st : Stmt} {N ps : List Str} {k : Nat} {sp : Sp} (D : MDef K C m qual st ps) (S : FnScope N ps (defScope st)) (len : ∀ vs H Q E, sp vs H Q E → vs.length = ps.length)
    (hbody : ∀ (f : Addr) (cdv : Value) (A : Around) (outer : List Env) (s : Shared) (H : Hp) (vs : List V) (Q : VK) (E : XK), Room k (A.deeper (envOfC qual (defScope st) s.heap.objs.size f cdv)) → sp vs H Q E →
      ∃ t, PSs (cxOf CX0 P w K mg base N qual (defScope st) f cdv A outer s H E).nox (defBody st) t ∧ t { nx := fun _ H' => Q .non H', rt := Q } (start N vs) H) : MFn P w K mg base (k + 1) C m ps sp := by
  obtain ⟨f, fd, F, hm, hb⟩ := D.ex
  exact ⟨f, fd, hm, hb, fn_up (F.ok S len (hbody f))⟩
theorem MDef.okX {m qual : Str} {st : Stmt} {N ps : List Str} {k : Nat} {sp : Sp} (D : MDef K C m qual st ps) (S : FnScope N ps (defScope st)) (len : ∀ vs H Q E, sp vs H Q E → vs.length = ps.length)
    (hbody : ∀ (f : Addr) (cdv : Value) (A : Around) (outer : List Env) (s : Shared) (H : Hp) (vs : List V) (Q : VK) (E : XK), Room k (A.deeper (envOfC qual (defScope st) s.heap.objs.size f cdv)) → sp vs H Q E →
      ∃ t, PSs (cxOf (L2.CX P w) P w K mg base N qual (defScope st) f cdv A outer s H E) (defBody st) t ∧ t { nx := fun _ H' => Q .non H', rt := Q } (start N vs) H) : MFn P w K mg base (k + 1) C m ps sp := by
  obtain ⟨f, fd, F, hm, hb⟩ := D.ex
  exact ⟨f, fd, hm, hb, F.okX S len (hbody f)⟩
theorem IDef.okX {qual : Str} {st : Stmt} {N ps : List Str} {k : Nat} {sp : Sp} (D : IDef K C qual st ps) (S : FnScope N ps (defScope st)) (len : ∀ vs H Q E, sp vs H Q E → vs.length = ps.length)
    (hbody : ∀ (f : Addr) (cdv : Value) (A : Around) (outer : List Env) (s : Shared) (H : Hp) (vs : List V) (Q : VK) (E : XK), Room k (A.deeper (envOfC qual (defScope st) s.heap.objs.size f cdv)) → sp vs H Q E →
      ∃ t, PSs (cxOf (L2.CX P w) P w K mg base N qual (defScope st) f cdv A outer s H E) (defBody st) t ∧ t { nx := fun _ H' => Q .non H', rt := Q } (start N vs) H) : IFn P w K mg base (k + 1) C ps sp := by
  obtain ⟨f, fd, F, hm, hb, hk, hd⟩ := D.ex
  exact ⟨f, fd, hm, hb, hk, hd, F.ok S len (hbody f)⟩
theorem mdef_mk {m qual : Str} {st : Stmt} {f : Addr} {fd : FuncData} {ps : List Str} (F : Fun K m qual st f fd) (a : PySem.W.findIn K (.ref C) m = some (some (.ref f))) (i : PySem.W.isFn K (.ref f) = true) (k : PySem.W.keepIn K (.ref f) = true) (hb : Binds K fd ps []) : MDef K C m qual st ps := ⟨f, fd, F, ⟨a, i, k⟩, hb⟩
theorem pdef_mk {qual : Str} {st : Stmt} {f : Addr} {fd : FuncData} {ps : List Str} (F : Fun K "__init__" qual st f fd) (M : Mk K C f) (hb : Binds K fd ps []) : PDef K C qual st ps := ⟨f, fd, F, M, hb⟩
theorem idef_mk {qual : Str} {st : Stmt} {f : Addr} {fd : FuncData} {ps : List Str} {n : Nat} (F : FunD K "__init__" qual (defArgs st) (defBody st) (defScope st) [.non] [] f fd) (M : Mk K C f) (hn : n + 1 = ps.length)
    (h0 : ∀ (T : Addr) (kV doc pm : Value) (an : Option Addr) (cdv ct : Value) (us its : List Value), us.length = n → its.length = 1 →
      ∃ k, bindArgs (PySem.W.fnOf "__init__" qual (defArgs st) (defBody st) (defScope st) (.ref T) kV doc pm an cdv ct) ⟨us, []⟩ = seqItems? (.ref T) >>= k ∧ k (some its.toArray) = pure (ps.zip (us ++ its.drop 0)))
    (h1 : ∀ (T : Addr) (kV doc pm : Value) (an : Option Addr) (cdv ct : Value) (us its : List Value), us.length = n + 1 → its.length = 1 →
      ∃ k, bindArgs (PySem.W.fnOf "__init__" qual (defArgs st) (defBody st) (defScope st) (.ref T) kV doc pm an cdv ct) ⟨us, []⟩ = seqItems? (.ref T) >>= k ∧ k (some its.toArray) = pure (ps.zip (us ++ its.drop 1)))
    (h2 : ∀ (T : Addr) (kV doc pm : Value) (an : Option Addr) (cdv ct : Value) (us its ws : List Value), us.length = 1 → its.length = 1 → ws.length = 1 →
      ∃ k, bindArgs (PySem.W.fnOf "__init__" qual (defArgs st) (defBody st) (defScope st) (.ref T) kV doc pm an cdv ct) ⟨us, [ps.getD 1 Str.empty].zip ws⟩ = seqItems? (.ref T) >>= k ∧ k (some its.toArray) = pure (ps.zip (us ++ ws))) : IDef K C qual st ps := by
  obtain ⟨ds, hd, hb⟩ := F.binds1 n 0 (by simp) (by simpa using hn) h0
  obtain ⟨ds1, hd1, hb1⟩ := F.binds1 (n + 1) 1 (by simp) (by simpa using hn) h1
  have e : ds1 = [] := by
    have : Vals [] ds1 := hd1
    cases this
    rfl
  subst e
  obtain ⟨its, hk⟩ := F.kbindsD 1 [ps.getD 1 Str.empty] (fun us _ ws => us ++ ws) (by simp) (fun r1 _ r3 => r1.append r3) h2
  exact ⟨f, fd, F, M, hb1, hk, ds, hd, hb⟩
end
/-! ### calls of methods, making -/
section
variable {X : Cx} {K : PySem.W.Frag} {σ : St} {H H' : Hp} {Q : VK} {k j : Nat} {ps : List Str} {sp : Sp} {E : XK} {x m f : Str} {p pos apos : Pos} {o e : Expr} {es : List Expr} {ta te tv : TE} {t : TA} {C a dx : Addr} {fs : List (Str × V)} {v y z : V} {nx bk ct : St → Hp → Prop} {rt : VK} {vs : List V}
def uMeth (C : Addr) (m : Str) (sp : Sp) (E : XK) (t : TA) (σ : St) (x : V) (H : Hp) (Q : VK) : Prop := ∃ a dx fs, x = .ref a ∧ H a = some (.ins C dx fs) ∧ fs.lookup m = none ∧ t σ H fun vs H2 => sp (x :: vs) H2 Q E
def tMethU (C : Addr) (m : Str) (sp : Sp) (E : XK) (ta : TE) (t : TA) : TE := fun σ H Q => ta σ H fun x H1 => uMeth C m sp E t σ x H1 Q
theorem tMeth_eq : tMeth C m sp [] E ta t = tMethU C m sp E ta t := by
  funext σ H Q
  unfold tMeth tMethU uMeth
  simp only [List.append_nil]
theorem pe_methE {pl : Sem Bool} (G : MFn X.prog X.w X.K X.mg X.base k C m ps sp) (hr : Room j X.A) (hk : k ≤ j) (c : Cls X.K C) (hx : Passes (L2.CX X.prog X.w) X E) (he : PE X o ta) (ha : PA X (e :: es) t)
    (hst : starEach (e :: es) X.env = (false, eval e X.env) :: starEach es X.env := by rfl) (hpl : (backTo pos (starEach es X.env)).any (·.1) = false := by rfl)
    (ht : eval (.Call (.Attribute o m apos) (e :: es) [] pos) X.env = (do
      let ov ← eval o X.env
      standAt apos.atName
      let (f, first) ← holding [ov] (getMethod ov m pl)
      callWith pos f first (backTo pos (starEach (e :: es) X.env)) (backToKw pos (keywordEach [] X.env))) := by rfl) :
    PE X (.Call (.Attribute o m apos) (e :: es) [] pos) (tMethU C m sp E ta t) := by
  obtain ⟨f, fd, hm, hb, F⟩ := G.ex
  have h := pe_meth (dvs := []) he c hm (F.mono hk) hr hb .nil hx ha hst hpl ht
  rw [tMeth_eq] at h
  exact h
theorem pe_meth0E {pl : Sem Bool} (G : MFn X.prog X.w X.K X.mg X.base k C m ps sp) (hr : Room j X.A) (hk : k ≤ j) (c : Cls X.K C) (hx : Passes (L2.CX X.prog X.w) X E) (he : PE X o ta)
    (ht : eval (.Call (.Attribute o m apos) [] [] pos) X.env = (do
      let ov ← eval o X.env
      standAt apos.atName
      let (f, first) ← holding [ov] (getMethod ov m pl)
      callWith pos f first (backTo pos (starEach [] X.env)) (backToKw pos (keywordEach [] X.env))) := by rfl) :
    PE X (.Call (.Attribute o m apos) [] [] pos) (tMethU C m sp E ta tNil) := by
  obtain ⟨f, fd, hm, hb, F⟩ := G.ex
  have h := pe_meth0 (dvs := []) he c hm (F.mono hk) hr hb .nil hx ht
  rw [tMeth_eq] at h
  exact h
theorem pe_methN {pl : Sem Bool} (G : MFn X.prog X.w X.K X.mg X.base k C m ps sp) (hr : Room j X.A) (c : Cls X.K C) (he : PE X o ta) (ha : PA X (e :: es) t) (hk : k ≤ j := by decide)
    (hst : starEach (e :: es) X.env = (false, eval e X.env) :: starEach es X.env := by rfl) (hpl : (backTo pos (starEach es X.env)).any (·.1) = false := by rfl)
    (ht : eval (.Call (.Attribute o m apos) (e :: es) [] pos) X.env = (do
      let ov ← eval o X.env
      standAt apos.atName
      let (f, first) ← holding [ov] (getMethod ov m pl)
      callWith pos f first (backTo pos (starEach (e :: es) X.env)) (backToKw pos (keywordEach [] X.env))) := by rfl) :
    PE X (.Call (.Attribute o m apos) (e :: es) [] pos) (tMethU C m sp E0 ta t) := pe_methE G hr hk c passL he ha hst hpl ht
theorem pe_meth0N {pl : Sem Bool} (G : MFn X.prog X.w X.K X.mg X.base k C m ps sp) (hr : Room j X.A) (c : Cls X.K C) (he : PE X o ta) (hk : k ≤ j := by decide)
    (ht : eval (.Call (.Attribute o m apos) [] [] pos) X.env = (do
      let ov ← eval o X.env
      standAt apos.atName
      let (f, first) ← holding [ov] (getMethod ov m pl)
      callWith pos f first (backTo pos (starEach [] X.env)) (backToKw pos (keywordEach [] X.env))) := by rfl) :
    PE X (.Call (.Attribute o m apos) [] [] pos) (tMethU C m sp E0 ta tNil) := pe_meth0E G hr hk c passL he ht
theorem pe_methX {pl : Sem Bool} (G : MFn X.prog X.w X.K X.mg X.base k C m ps sp) (hr : Room j X.A) (c : Cls X.K C) (tk : Takes X (fun cls d _ H => E cls d H)) (he : PE X o ta) (ha : PA X (e :: es) t) (hk : k ≤ j := by decide)
    (hst : starEach (e :: es) X.env = (false, eval e X.env) :: starEach es X.env := by rfl) (hpl : (backTo pos (starEach es X.env)).any (·.1) = false := by rfl)
    (ht : eval (.Call (.Attribute o m apos) (e :: es) [] pos) X.env = (do
      let ov ← eval o X.env
      standAt apos.atName
      let (f, first) ← holding [ov] (getMethod ov m pl)
      callWith pos f first (backTo pos (starEach (e :: es) X.env)) (backToKw pos (keywordEach [] X.env))) := by rfl) :
    PE X (.Call (.Attribute o m apos) (e :: es) [] pos) (tMethU C m sp E ta t) := pe_methE G hr hk c (passes_call tk fun _ _ _ _ h => h) he ha hst hpl ht
theorem pe_meth0X {pl : Sem Bool} (G : MFn X.prog X.w X.K X.mg X.base k C m ps sp) (hr : Room j X.A) (c : Cls X.K C) (tk : Takes X (fun cls d _ H => E cls d H)) (he : PE X o ta) (hk : k ≤ j := by decide)
    (ht : eval (.Call (.Attribute o m apos) [] [] pos) X.env = (do
      let ov ← eval o X.env
      standAt apos.atName
      let (f, first) ← holding [ov] (getMethod ov m pl)
      callWith pos f first (backTo pos (starEach [] X.env)) (backToKw pos (keywordEach [] X.env))) := by rfl) :
    PE X (.Call (.Attribute o m apos) [] [] pos) (tMethU C m sp E ta tNil) := pe_meth0E G hr hk c (passes_call tk fun _ _ _ _ h => h) he ht
theorem r_meth (q : ta σ H fun x H1 => uMeth C m sp E t σ x H1 Q) : tMethU C m sp E ta t σ H Q := q
theorem r_methi (h : H a = some (.ins C dx fs)) (hn : fs.lookup m = none) (q : t σ H fun vs H2 => sp (.ref a :: vs) H2 Q E) : uMeth C m sp E t σ (.ref a) H Q := ⟨a, dx, fs, rfl, h, hn, q⟩
/-- a new instance -/
def uMake (C : Addr) (sp : Sp) (dvs : List V) (E : XK) (vs : List V) (H : Hp) (Q : VK) : Prop := ∀ x dx, H x = none → H dx = none → dx ≠ x →
  sp (.ref x :: (vs ++ dvs)) (upd (upd H dx (.own x)) x (.ins C dx [])) (fun v H2 => v = .non ∧ Q (.ref x) H2) E
def tMakeU (C : Addr) (sp : Sp) (dvs : List V) (E : XK) (t : TA) : TE := fun σ H Q => t σ H fun vs H1 => uMake C sp dvs E vs H1 Q
theorem pe_makeE (G : IFn X.prog X.w X.K X.mg X.base k C ps sp) (T : ClT X.K X.mg x C) (hr : Room (j + 1) X.A) (hk : k ≤ j) (hg : Gl X x) (hx : Passes (L2.CX X.prog X.w) X E) (ha : PA X (e :: es) t)
    (hdb : (x == ("__debug__" : Str)) = false := by decide) (he : starEach (e :: es) X.env = (false, eval e X.env) :: starEach es X.env := by rfl) (hpl : (backTo pos (starEach es X.env)).any (·.1) = false := by rfl) :
    PE X (.Call (.Name x p) (e :: es) [] pos) (tMakeU C sp [] E t) := by
  obtain ⟨f, fd, hm, hb, _, _, F⟩ := G.ex
  exact pe_make (dvs := []) hm (F.mono hk) hr hg T.g hb .nil hx ha hdb he hpl
theorem pe_make0E (G : IFn X.prog X.w X.K X.mg X.base k C ps sp) (T : ClT X.K X.mg x C) (hr : Room (j + 1) X.A) (hk : k ≤ j) (hg : Gl X x) (hx : Passes (L2.CX X.prog X.w) X E) (hdb : (x == ("__debug__" : Str)) = false := by decide) :
    PE X (.Call (.Name x p) [] [] pos) (tMakeU C sp [.non] E tNil) := by
  obtain ⟨f, fd, hm, _, _, ⟨ds, hd, hb⟩, F⟩ := G.ex
  exact pe_make0 (dvs := [.non]) hm (F.mono hk) hr hg T.g hb hd hx hdb
theorem pe_makeNo (G : IFn X.prog X.w X.K X.mg X.base k C ps sp) (T : ClT X.K X.mg x C) (hr : Room (j + 1) X.A) (ha : PA X (e :: es) t) (hk : k ≤ j := by decide) (hg : Gl X x := by rfl)
    (hdb : (x == ("__debug__" : Str)) = false := by decide) (he : starEach (e :: es) X.env = (false, eval e X.env) :: starEach es X.env := by rfl) (hpl : (backTo pos (starEach es X.env)).any (·.1) = false := by rfl) :
    PE X (.Call (.Name x p) (e :: es) [] pos) (tMakeU C sp [] E0 t) := pe_makeE G T hr hk hg passL ha hdb he hpl
theorem pe_make0No (G : IFn X.prog X.w X.K X.mg X.base k C ps sp) (T : ClT X.K X.mg x C) (hr : Room (j + 1) X.A) (hk : k ≤ j := by decide) (hg : Gl X x := by rfl) (hdb : (x == ("__debug__" : Str)) = false := by decide) :
    PE X (.Call (.Name x p) [] [] pos) (tMakeU C sp [.non] E0 tNil) := pe_make0E G T hr hk hg passL hdb
theorem pe_makePE (G : PFn X.prog X.w X.K X.mg X.base k C ps sp) (T : ClT X.K X.mg x C) (hr : Room (j + 1) X.A) (hk : k ≤ j) (hg : Gl X x) (hx : Passes (L2.CX X.prog X.w) X E) (ha : PA X (e :: es) t)
    (hdb : (x == ("__debug__" : Str)) = false := by decide) (he : starEach (e :: es) X.env = (false, eval e X.env) :: starEach es X.env := by rfl) (hpl : (backTo pos (starEach es X.env)).any (·.1) = false := by rfl) :
    PE X (.Call (.Name x p) (e :: es) [] pos) (tMakeU C sp [] E t) := by
  obtain ⟨f, fd, hm, hb, F⟩ := G.ex
  exact pe_make (dvs := []) hm (F.mono hk) hr hg T.g hb .nil hx ha hdb he hpl
theorem pe_makePNo (G : PFn X.prog X.w X.K X.mg X.base k C ps sp) (T : ClT X.K X.mg x C) (hr : Room (j + 1) X.A) (ha : PA X (e :: es) t) (hk : k ≤ j := by decide) (hg : Gl X x := by rfl)
    (hdb : (x == ("__debug__" : Str)) = false := by decide) (he : starEach (e :: es) X.env = (false, eval e X.env) :: starEach es X.env := by rfl) (hpl : (backTo pos (starEach es X.env)).any (·.1) = false := by rfl) :
    PE X (.Call (.Name x p) (e :: es) [] pos) (tMakeU C sp [] E0 t) := pe_makePE G T hr hk hg passL ha hdb he hpl
theorem pe_makeP0E (G : PFn X.prog X.w X.K X.mg X.base k C ps sp) (T : ClT X.K X.mg x C) (hr : Room (j + 1) X.A) (hk : k ≤ j) (hg : Gl X x) (hx : Passes (L2.CX X.prog X.w) X E) (hdb : (x == ("__debug__" : Str)) = false := by decide) :
    PE X (.Call (.Name x p) [] [] pos) (tMakeU C sp [] E tNil) := by
  obtain ⟨f, fd, hm, hb, F⟩ := G.ex
  exact pe_make0 (dvs := []) hm (F.mono hk) hr hg T.g hb .nil hx hdb
theorem pe_makeP0No (G : PFn X.prog X.w X.K X.mg X.base k C ps sp) (T : ClT X.K X.mg x C) (hr : Room (j + 1) X.A) (hk : k ≤ j := by decide) (hg : Gl X x := by rfl) (hdb : (x == ("__debug__" : Str)) = false := by decide) :
    PE X (.Call (.Name x p) [] [] pos) (tMakeU C sp [] E0 tNil) := pe_makeP0E G T hr hk hg passL hdb
/-- C(k = v) -/
def uMakeK (C : Addr) (sp : Sp) (E : XK) (zs : List V) (H : Hp) (Q : VK) : Prop := ∃ z, zs = [z] ∧ uMake C sp [] E [z] H Q
def tMakeKw (C : Addr) (sp : Sp) (E : XK) (tk : TA) : TE := fun σ H Q => tk σ H fun zs H2 => uMakeK C sp E zs H2 Q
theorem pe_makeKw {kws : List Keyword} {tk : TA} (G : IFn X.prog X.w X.K X.mg X.base k C ps sp) (T : ClT X.K X.mg x C) (hr : Room (j + 1) X.A) (hkw : PK X kws tk) (hk : k ≤ j := by decide) (hg : Gl X x := by rfl)
    (hall : (backToKw pos (keywordEach kws X.env)).all (·.1.isSome) = true := by rfl) (hks : (backToKw pos (keywordEach kws X.env)).filterMap (·.1) = [ps.getD 1 Str.empty] := by rfl) (hdb : (x == ("__debug__" : Str)) = false := by decide)
    (hpl : ((backTo pos (starEach [] X.env)).any (·.1) || (backToKw pos (keywordEach kws X.env)).any (·.1.isNone)) = false := by rfl) :
    PE X (.Call (.Name x p) [] kws pos) (tMakeKw C sp E0 tk) := by
  obtain ⟨f, fd, hm, _, hb, _, F⟩ := G.ex
  have h := pe_makeK0 (p := p) (pos := pos) hm (F.mono hk) hr hg T.g hb passL hkw hall hks hdb hpl
  have e : tMakeK C 0 ([ps.getD 1 Str.empty] : List Str).length sp (fun vs zs => vs ++ zs) E0 tNil tk = tMakeKw C sp E0 tk := by
    funext σ H Q
    show tk σ H (fun zs H2 => ([] : List V).length = 0 ∧ zs.length = 1 ∧ ∀ x dx, H2 x = none → H2 dx = none → dx ≠ x → sp ([.ref x] ++ zs) (upd (upd H2 dx (.own x)) x (.ins C dx [])) (fun v H3 => v = .non ∧ Q (.ref x) H3) E0) = tk σ H (fun zs H2 => uMakeK C sp E0 zs H2 Q)
    congr 1
    funext zs H2
    apply propext
    constructor
    · rintro ⟨_, h1, h2⟩
      obtain ⟨z, rfl⟩ := List.length_eq_one_iff.mp h1
      exact ⟨z, rfl, h2⟩
    · rintro ⟨z, rfl, h2⟩
      exact ⟨rfl, rfl, h2⟩
  rw [e] at h
  exact h
theorem r_makeKw {tk : TA} (q : tk σ H fun zs H2 => uMakeK C sp E zs H2 Q) : tMakeKw C sp E tk σ H Q := q
theorem r_makeKi (q : uMake C sp [] E [z] H Q) : uMakeK C sp E [z] H Q := ⟨z, rfl, q⟩
theorem r_make {dvs : List V} (q : t σ H fun vs H1 => uMake C sp dvs E vs H1 Q) : tMakeU C sp dvs E t σ H Q := q
theorem r_makei {dvs : List V} (q : ∀ x dx H', H x = none → H dx = none → dx ≠ x → Same H H' → H' x = some (.ins C dx []) → sp (.ref x :: (vs ++ dvs)) H' (fun v H2 => v = .non ∧ Q (.ref x) H2) E) : uMake C sp dvs E vs H Q := fun x dx h1 h2 h3 =>
  q x dx _ h1 h2 h3 (fun b o e => by rw [upd_ne (ne_of_none e h1), upd_ne (ne_of_none e h2)]; exact e) upd_same
/-! fields -/
def uFld (K : PySem.W.Frag) (f : Str) (x : V) (H : Hp) (Q : VK) : Prop := ∃ a C dx fs v, x = .ref a ∧ H a = some (.ins C dx fs) ∧ Cls K C ∧ NoAttr K C f ∧ fs.lookup f = some v ∧ Q v H
theorem r_fld (q : ta σ H fun x H1 => uFld K f x H1 Q) : tFld K ta f σ H Q := q
theorem r_fldi (c : Cls K C) (n : NoAttr K C f) (h : H a = some (.ins C dx fs)) (l : fs.lookup f = some v) (q : Q v H) : uFld K f (.ref a) H Q := ⟨a, C, dx, fs, v, rfl, h, c, n, l, q⟩
def uSetF (K : PySem.W.Frag) (f : Str) (x y : V) (H : Hp) (R : Hp → Prop) : Prop := ∃ a C dx fs, x = .ref a ∧ H a = some (.ins C dx fs) ∧ Cls K C ∧ NoAttr K C f ∧ fs.length < 1000 ∧ R (upd H a (.ins C dx (putF f y fs)))
theorem r_sfld (q : tv σ H fun y H1 => ta σ H1 fun x H2 => uSetF K f x y H2 fun H3 => nx σ H3) : sFld K ta tv f ⟨nx, rt, bk, ct⟩ σ H := q
theorem r_sfldi {R : Hp → Prop} {fs' : List (Str × V)} (c : Cls K C) (n : NoAttr K C f) (h : H a = some (.ins C dx fs)) (hl : fs.length < 1000) (e : putF f y fs = fs') (q : ∀ H', Keep (At a) H H' → H' a = some (.ins C dx fs') → R H') : uSetF K f (.ref a) y H R :=
  ⟨a, C, dx, fs, rfl, h, c, n, hl, q _ Keep.at_ (by rw [upd_same, e])⟩
def uFAug (K : PySem.W.Frag) (tv : TE) (f : Str) (x : V) (σ : St) (H : Hp) (R : Hp → Prop) : Prop := ∃ a C dx fs v, x = .ref a ∧ H a = some (.ins C dx fs) ∧ Cls K C ∧ NoAttr K C f ∧ fs.lookup f = some v ∧
  tv σ H fun y H2 => rAdd v y H2 fun z H3 => ∃ dx' fs', H3 a = some (.ins C dx' fs') ∧ fs'.length < 1000 ∧ R (upd H3 a (.ins C dx' (putF f z fs')))
def uEndA (i : Int) (a : Addr) (f : Str) (C : Addr) (y : V) (H : Hp) (R : Hp → Prop) : Prop := rAdd (.int i) y H fun z H3 => ∃ dx' fs', H3 a = some (.ins C dx' fs') ∧ fs'.length < 1000 ∧ R (upd H3 a (.ins C dx' (putF f z fs')))
theorem r_faug (q : ta σ H fun x H1 => uFAug K tv f x σ H1 fun H2 => nx σ H2) : sFldAug K ta tv rAdd f ⟨nx, rt, bk, ct⟩ σ H := q
theorem r_faugi {R : Hp → Prop} {i : Int} (c : Cls K C) (n : NoAttr K C f) (h : H a = some (.ins C dx fs)) (l : fs.lookup f = some (.int i)) (q : tv σ H fun y H2 => uEndA i a f C y H2 R) : uFAug K tv f (.ref a) σ H R := ⟨a, C, dx, fs, .int i, rfl, h, c, n, l, q⟩
theorem r_enda {R : Hp → Prop} {i j : Int} {fs' : List (Str × V)} (h : H a = some (.ins C dx fs)) (hl : fs.length < 1000) (e : putF f (.int (i + j)) fs = fs') (q : ∀ H', Keep (At a) H H' → H' a = some (.ins C dx fs') → R H') : uEndA i a f C (.int j) H R :=
  ⟨i, j, rfl, rfl, dx, fs, h, hl, q _ Keep.at_ (by rw [upd_same, e])⟩
theorem lk_here {k : Str} {r : List (Str × V)} : ((k, v) :: r).lookup k = some v := by simp [List.lookup]
theorem lk_next {k k' : Str} {r : List (Str × V)} {o : Option V} (h : (k == k') = false) (q : r.lookup k = o) : ((k', v) :: r).lookup k = o := by simp [List.lookup, h, q]
theorem lk_nil {k : Str} : ([] : List (Str × V)).lookup k = none := rfl
theorem pf_nil {k : Str} : putF k v [] = [(k, v)] := rfl
theorem pf_here {k : Str} {r : List (Str × V)} : putF k y ((k, v) :: r) = (k, y) :: r := by simp [putF]
theorem pf_next {k g : Str} {r r' : List (Str × V)} (h : (g == k) = false) (q : putF k y r = r') : putF k y ((g, v) :: r) = (g, v) :: r' := by
  have h' : ¬ g = k := by simpa using h
  simp [putF, h', q]
end
/-! ### dicts by tuples of numbers -/
section
variable {X : Cx} {K : PySem.W.Frag} {σ : St} {H H' : Hp} {Q : VK} {td ty : TE} {a b : Addr} {kvs : List (List Key × V)} {l : Nat} {s : Int} {v x y : V}
theorem r_dputT {R : Hp → Prop} {i j : Int} (hd : H a = some (.dT kvs)) (hb : H b = some (.tup [.int i, .int j])) (hl : kvs.length ≤ 10000000) (q : ∀ H', Keep (At a) H H' → H' a = some (.dT (putK kvs [Sum.inl i, Sum.inl j] v)) → R H') : uDPut (.ref a) (.ref b) v H R :=
  ⟨a, _, rfl, DPut.t (k := [Sum.inl i, Sum.inl j]) hd hb (by rw [sizeLine_eq]; omega), q _ Keep.at_ upd_same⟩
def uDG1 (ty : TE) (σ : St) (x : V) (H : Hp) (Q : VK) : Prop := ∃ a, x = .ref a ∧ IsD H a ∧ ty σ H fun y H2 => ∃ o, DGet H2 a y o ∧ Q (o.getD .non) H2
def uDG2 (a : Addr) (y : V) (H : Hp) (Q : VK) : Prop := ∃ o, DGet H a y o ∧ Q (o.getD .non) H
theorem r_dget1 (q : td σ H fun x H1 => uDG1 ty σ x H1 Q) : tDGet1 td ty σ H Q := q
theorem r_dg1T (hd : H a = some (.dT kvs)) (q : ty σ H fun y H2 => uDG2 a y H2 Q) : uDG1 ty σ (.ref a) H Q := ⟨a, rfl, .inr ⟨kvs, .inl hd⟩, q⟩
theorem r_dg2T {i j : Int} (hd : H a = some (.dT kvs)) (hb : H b = some (.tup [.int i, .int j])) (q : Q ((valV kvs [Sum.inl i, Sum.inl j]).getD .non) H) : uDG2 a (.ref b) H Q :=
  ⟨_, DGet.t (k := [Sum.inl i, Sum.inl j]) hd hb, q⟩
theorem r_dg1K {m : Prs} (hd : H a = some (.dK (m.map inj))) (q : ty σ H fun y H2 => uDG2 a y H2 Q) : uDG1 ty σ (.ref a) H Q := ⟨a, rfl, .inl ⟨_, .inl hd⟩, q⟩
theorem r_dg2K {m : Prs} {i : Int} (hd : H a = some (.dK (m.map inj))) (q : Q (((valP m i).map V.int).getD .non) H) : uDG2 a (.int i) H Q := by
  refine ⟨_, DGet.k (k := Sum.inl i) hd, ?_⟩
  rw [val_inj]
  exact q
/-- (x,) * k -/
theorem r_repT {xs : List V} {k : Int} (h : SqT K H a xs) (hn : xs ≠ []) (hk : 2 ≤ k ∧ k ≤ 1000) (hl : xs.length ≤ 1000) (q : ∀ p H', H p = none → Same H H' → H' p = some (.tup (List.replicate k.toNat xs).flatten) → Q (.ref p) H') : rRepT K (.ref a) (.int k) H Q :=
  ⟨a, k, xs, rfl, rfl, h, hn, hk.1, hk.2, hl, fun p hp => q p _ hp (Keep.same (Keep.new hp)) upd_same⟩
end
/-! ### x or y, whatever they are -/
section
variable {X : Cx} {σ : St} {H H' : Hp} {Q : VK} {ta tb : TE} {a : Expr} {b : Expr} {rest : List Expr} {pos : Pos} {p : Addr} {xs : List V}
theorem peK_orT (K : PySem.W.Frag) (ha : PE X a ta) (hb : PE X (.BoolOp .Or (b :: rest) pos) tb) (hK : X.K = K := by rfl) : PE X (.BoolOp .Or (a :: b :: rest) pos) (tOrT K ta tb) := hK ▸ pe_orT ha hb
def uOrT (K : PySem.W.Frag) (tb : TE) (σ : St) (x : V) (H : Hp) (Q : VK) : Prop := ∃ k, TruV K x H k ∧ if k = true then Q x H else tb σ H Q
theorem r_orT {K : PySem.W.Frag} (q : ta σ H fun x H1 => uOrT K tb σ x H1 Q) : tOrT K ta tb σ H Q := q
theorem r_orTn {K : PySem.W.Frag} (q : tb σ H Q) : uOrT K tb σ .non H Q := ⟨false, rfl, by rw [if_neg (by decide)]; exact q⟩
theorem r_orTt {K : PySem.W.Frag} (h : SqT K H p xs) (q1 : xs ≠ [] → Q (.ref p) H) (q2 : xs = [] → tb σ H Q) : uOrT K tb σ (.ref p) H Q := by
  refine ⟨!xs.isEmpty, .inr (.inl ⟨xs, h, rfl⟩), ?_⟩
  cases xs with
  | nil => rw [if_neg (by decide)]; exact q2 rfl
  | cons x r => rw [if_pos (show (!(x :: r).isEmpty) = true from rfl)]; exact q1 (by simp)
theorem r_dnewT (q : ∀ p H', H p = none → Same H H' → H' p = some (.dT []) → Q (.ref p) H') : tDNewT σ H Q := fun p hp => q p _ hp (Keep.same (Keep.new hp)) upd_same
end
/-! ### a sample put into a curve -/
def insC (c : Prs) (t h : Int) : Prs := (c.filter fun p => decide (p.1 < t)) ++ (t, h) :: (c.filter fun p => decide (t < p.1))
theorem insC_mem {c : Prs} {t h : Int} {p : Int × Int} : p ∈ insC c t h ↔ p = (t, h) ∨ (p ∈ c ∧ p.1 ≠ t) := by
  unfold insC
  simp only [List.mem_append, List.mem_cons, List.mem_filter, decide_eq_true_eq]
  constructor
  · rintro (⟨h1, h2⟩ | h1 | ⟨h1, h2⟩)
    · exact .inr ⟨h1, by omega⟩
    · exact .inl h1
    · exact .inr ⟨h1, by omega⟩
  · rintro (h1 | ⟨h1, h2⟩)
    · exact .inr (.inl h1)
    · by_cases z : p.1 < t
      · exact .inl ⟨h1, z⟩
      · exact .inr (.inr ⟨h1, by omega⟩)
theorem insC_up {c : Prs} (hc : c.Pairwise fun p q => p.1 < q.1) (t h : Int) : (insC c t h).Pairwise fun p q => p.1 < q.1 := by
  unfold insC
  rw [List.pairwise_append]
  refine ⟨hc.sublist List.filter_sublist, List.pairwise_cons.mpr ⟨fun p hp => ?_, hc.sublist List.filter_sublist⟩, fun p hp q hq => ?_⟩
  · simpa using (List.mem_filter.mp hp).2
  · have h1 : p.1 < t := by simpa using (List.mem_filter.mp hp).2
    rcases List.mem_cons.mp hq with rfl | hq
    · exact h1
    · have h2 : t < q.1 := by simpa using (List.mem_filter.mp hq).2
      omega
theorem beside_of {c c' : Prs} {t : Int} (hc : c.Pairwise fun p q => p.1 < q.1) (hc' : c'.Pairwise fun p q => p.1 < q.1) (h : ∀ p : Int × Int, p.1 ≠ t → (p ∈ c' ↔ p ∈ c)) : Beside t c c' := by
  intro b e hn
  refine up_ext (hc'.sublist List.filter_sublist) (hc.sublist List.filter_sublist) fun p => ?_
  unfold partL
  rw [List.mem_filter, List.mem_filter]
  by_cases z : p.1 = t
  · simp only [Bool.and_eq_true, decide_eq_true_eq]
    constructor
    · rintro ⟨_, h1, h2⟩; exact absurd ⟨by omega, by omega⟩ hn
    · rintro ⟨_, h1, h2⟩; exact absurd ⟨by omega, by omega⟩ hn
  · rw [h p z]
theorem insC_beside {c : Prs} (hc : c.Pairwise fun p q => p.1 < q.1) (t h : Int) : Beside t c (insC c t h) := beside_of hc (insC_up hc t h) fun p hp => by
  rw [insC_mem]
  constructor
  · rintro (z | z)
    · exact absurd (by rw [z]) hp
    · exact z.1
  · exact fun z => .inr ⟨z, hp⟩
theorem insC_take {c : Prs} (hc : c.Pairwise fun p q => p.1 < q.1) {i : Nat} {q : Int × Int} (h : c[i]? = some q) : insC (c.take i) q.1 q.2 = c.take (i + 1) := by
  have h1 := hc.sublist (List.take_sublist i c)
  refine up_ext (insC_up h1 _ _) (hc.sublist (List.take_sublist _ c)) fun p => ?_
  rw [insC_mem, take_snoc h, List.mem_append, List.mem_singleton]
  have hs := hc.sublist (List.take_sublist (i + 1) c)
  rw [take_snoc h, List.pairwise_append] at hs
  constructor
  · rintro (h2 | ⟨h2, _⟩)
    · exact .inr h2
    · exact .inl h2
  · rintro (h2 | h2)
    · have := hs.2.2 p h2 q (by simp)
      exact .inr ⟨h2, by omega⟩
    · exact .inl h2
theorem fourInv_nil (K : PySem.W.Frag) (H : Hp) : FourInv K H [] [] := fun l s _ => by
  rw [if_neg (by omega)]
  exact .none
end Fp
/-! ### t[::-1] of a tuple -/
namespace FpRev
open PySem PySem.Spec PyProof.Rows HT
section
variable {prog : Program} {w : World} {A : Around} {E : Value → Shared → Prop} {s : Shared}
theorem adj (n : Nat) : Builtin.Slice.sliceAdjust none none (-1) (n : Int) = ((n : Int) - 1, -1) := by
  unfold Builtin.Slice.sliceAdjust
  simp
theorem plc (n : Nat) : Builtin.Slice.slicePlaces ((n : Int) - 1) (-1) (-1) = n := by
  unfold Builtin.Slice.slicePlaces
  simp
  try omega
theorem applied {sp : Addr} {va vb : Value} {tk : Tok} {n : Nat} {Q : Int × Int × Nat → Shared → Prop} (hs : s.heap.IsSliceOf sp va vb (.int (-1) tk)) (pa : IsPart va none) (pb : IsPart vb none)
    (h : Q ((n : Int) - 1, -1, n) s) : wpAny (model prog w) A (Builtin.Slice.sliceApplied (.ref sp) (pure (n : Int))) Q E s := by
  obtain ⟨ob, h1, h2, h3⟩ := id hs
  unfold Builtin.Slice.sliceApplied Builtin.Slice.sliceFields
  refine wpAny_bind (wpAny_bind (wpAny_field h1 h3 (x := va) rfl (wpAny_bind (wpAny_field h1 h3 (x := vb) rfl (wpAny_bind (wpAny_field h1 h3 (x := .int (-1) tk) rfl (wpAny_pure ?_)))))))
  refine wpAny_bind (slicePart_int ?_)
  show wpAny _ _ (if ((-1 : Int) == 0) = true then _ else _) _ _ s
  rw [if_neg (by decide)]
  refine wpAny_bind (slicePart_ pa (wpAny_bind (slicePart_ pb (wpAny_bind (wpAny_pure ?_)))))
  show wpAny _ _ (match Builtin.Slice.sliceAdjust none none (-1) (n : Int) with | (a, b) => pure (a, (-1 : Int), Builtin.Slice.slicePlaces a b (-1))) _ _ s
  rw [adj n]
  show wpAny _ _ (pure ((n : Int) - 1, (-1 : Int), Builtin.Slice.slicePlaces ((n : Int) - 1) (-1) (-1))) _ _ s
  rw [plc]
  exact wpAny_pure h
theorem pickR (xs : Array Value) : ((List.range xs.size).filterMap fun (m : Nat) => xs[(((xs.size : Int) - 1) + (m : Int) * (-1)).toNat]?).toArray = xs.toList.reverse.toArray := by
  congr 1
  have e : ∀ n, n ≤ xs.size → ((List.range n).filterMap fun (m : Nat) => xs[(((xs.size : Int) - 1) + (m : Int) * (-1)).toNat]?) = xs.toList.reverse.take n := by
    intro n
    induction n with
    | zero => intro _; simp
    | succ n ih =>
      intro hn
      rw [List.range_succ, List.filterMap_append, ih (by omega)]
      have h1 : (((xs.size : Int) - 1) + (n : Int) * (-1)).toNat = xs.size - 1 - n := by omega
      have h2 : xs.toList.reverse[n]? = some (xs[xs.size - 1 - n]'(by omega)) := by
        rw [List.getElem?_reverse (by rw [Array.length_toList]; omega)]
        simp
      rw [take_snocR h2]
      congr 1
      simp only [List.filterMap_cons, List.filterMap_nil, h1]
      rw [Array.getElem?_eq_getElem (by omega)]
  rw [e _ (Nat.le_refl _), List.take_of_length_le (by simp)]
where
  take_snocR {l : List Value} {n : Nat} {x : Value} (h : l[n]? = some x) : l.take (n + 1) = l.take n ++ [x] := Fp.take_snoc h
theorem tup_rev {tp sp : Addr} {its : Array Value} {va vb : Value} {tk : Tok} {Q : Value → Shared → Prop} (ht : IsTup s.heap tp its) (hs : s.heap.IsSliceOf sp va vb (.int (-1) tk)) (pa : IsPart va none) (pb : IsPart vb none)
    (h : Q (.ref s.heap.objs.size) { s with heap := s.heap.push { cls := .type "tuple", data := .seq its.toList.reverse.toArray } }) (hz : its.size ≤ sizeLine) : wpAny (model prog w) A (getItem (.ref tp) (.ref sp)) Q E s := by
  have hsz : sizeOk (.seq its.toList.reverse.toArray) := by
    show its.toList.reverse.toArray.size ≤ sizeLine
    rw [List.size_toArray, List.length_reverse, Array.length_toList]
    exact hz
  obtain ⟨ob, h1, h2, h3⟩ := id hs
  have hS : s.TypeIs (.ref sp) "slice" := ⟨ob, h1, h2⟩
  unfold getItem
  try with_reducible refine wpAny_holding ?_
  first | refine wpAny_bind (wpAny_pure ?_) | skip
  refine wpAny_bind (wpAny_sequenceKey ht.typeIs (by decide) ?_)
  refine wpAny_bind (wpAny_callSpecial?_slot (name := Str.ofString "__getitem__") ht.typeIs PyProof.Rows.slot_tuple_getitem (wpAny_call_entry PyProof.Rows.slot_tuple_getitem ht.typeIs entry_tuple_getitem ?_ (args_tuple_getitem _ _)))
  show wpAny _ _ (Builtin.Tuple.tupleItemsOf (.ref tp) >>= _) _ _ s
  refine wpAny_bind (tupleItemsOf_ ht ?_)
  refine wpAny_bind (wpAny_typeOf hS ?_)
  rw [if_pos (by decide)]
  refine wpAny_bind (applied hs pa pb ?_)
  have hno : ¬ ((((its.size : Int) - 1) == 0 && (-1 : Int) == 1 && its.size == its.size) = true) := by simp
  show wpAny _ _ (if (((its.size : Int) - 1) == 0 && (-1 : Int) == 1 && its.size == its.size) = true then _ else _) _ _ s
  rw [if_neg hno, pickR]
  first
    | exact wpAny_bind (m := Builtin.Tuple.tupleExact _) (wpAny_newObj_type (wpAny_pure ⟨_, rfl, wpAny_pure h⟩) hsz)
    | exact wpAny_bind (m := Builtin.Tuple.tupleExact _) (wpAny_newObj_type (wpAny_bind (wpAny_pure (wpAny_pure ⟨_, rfl, wpAny_pure h⟩))) hsz)
    | exact wpAny_bind (wpAny_bind (m := Builtin.Tuple.tupleExact _) (wpAny_newObj_type (wpAny_pure (wpAny_pure ⟨_, rfl, wpAny_pure h⟩)) hsz))
    | exact wpAny_bind (wpAny_bind (m := Builtin.Tuple.tupleExact _) (wpAny_newObj_type (wpAny_pure ⟨_, rfl, wpAny_pure h⟩) hsz))
end
end FpRev
namespace Fp
open PySem PySem.Spec PyProof.Rows L2
section
variable {X : Cx} {K : PySem.W.Frag} {σ : St} {H : Hp} {Q : VK} {te : TE} {e : Expr} {a : Addr} {xs : List V}
def uRevT (K : PySem.W.Frag) (x : V) (H : Hp) (Q : VK) : Prop := ∃ a xs, x = .ref a ∧ SqT K H a xs ∧ ∀ p, H p = none → Q (.ref p) (upd H p (.tup xs.reverse))
def tRevT (K : PySem.W.Frag) (te : TE) : TE := fun σ H Q => te σ H fun x H1 => uRevT K x H1 Q
theorem peK_revT (K : PySem.W.Frag) {k : Nat} {p1 p2 p3 pos : Pos} (he : PE X e te) (hK : X.K = K := by rfl) : PE X (.Subscript e (.Slice none none (some (.UnaryOp .USub (.Constant (.int 1) k p1) p2)) p3) pos) (tRevT K te) := by
  subst hK
  refine ⟨fun pins s σ H Q I h => Subscript_ (thn (he.run pins s σ H _ I h) fun v s1 ⟨x, H1, I1, r1, q1⟩ => ?_)⟩
  obtain ⟨a, xs, ex, hx, q⟩ := q1
  subst ex
  cases r1
  have st : PO X (some (.UnaryOp .USub (.Constant (.int 1) k p1) p2)) (tPart (tUn (rU fun i => .int (-i)) (tC (.int 1)))) := po_some (pe_un un_neg pe_int)
  refine wpAny_Slice (thn (po_none.run pins s1 σ H1 (fun o H2 => o = none ∧ H2 = H1) I1 ⟨rfl, rfl⟩) fun va s2 ⟨l, H2, I2, pl, el, e2⟩ => ?_)
  subst el e2
  refine thn (po_none.run pins s2 σ H2 (fun o H3 => o = none ∧ H3 = H2) I2 ⟨rfl, rfl⟩) fun vb s3 ⟨u, H3, I3, pu, eu, e3⟩ => ?_
  subst eu e3
  refine thn (st.run pins s3 σ H3 (fun o H4 => o = some (-1) ∧ H4 = H3) I3 ⟨1, rfl, -1, rfl, rfl, rfl⟩) fun vc s4 ⟨o, H4, I4, ps, eo, e4⟩ => ?_
  subst eo e4
  cases ps with
  | int _ tk =>
  have I5 : Inv X pins σ H4 { s4 with heap := s4.heap.push { cls := .type "slice", data := .fields #[va, vb, .int (-1) tk] } } := I4.kept (t' := s4.toks) fun b ob q => Heap.get?_push_of_some _ q
  obtain ⟨its, r, ht, hz⟩ := I5.tuple hx
  have hlen : its.toArray.size = xs.length := by rw [List.size_toArray]; exact r.length.symm
  show wpAny (model X.prog X.w) X.A (subscriptTail e (.Slice none none (some (.UnaryOp .USub (.Constant (.int 1) k p1) p2)) p3) (.ref a) (.ref s4.heap.objs.size)) (EP X pins σ Q) X.xe { s4 with heap := s4.heap.push { cls := .type "slice", data := .fields #[va, vb, .int (-1) tk] } }
  refine tail_any (ops := [.ref a, .ref s4.heap.objs.size]) ht.typeIs (PyProof.Rows.slot_tuple_getitem.lookup) ?_ (by with_unfolding_all rfl)
  refine FpRev.tup_rev ht (Heap.IsSliceOf.new _ va vb _) pl pu ?_ (by rw [hlen]; exact hz)
  refine ⟨.ref _, _, I5.laid (t' := s4.toks) (o := .tup xs.reverse) (fun b ob q => Heap.get?_push_of_some _ q) (Nat.le_refl _) ?_, rfl, q _ (I5.hok.fresh (Nat.le_refl _))⟩
  exact ⟨by rw [List.length_reverse]; exact hz, _, r.reverse, IsTup.new _ _⟩
theorem r_revT (q : te σ H fun x H1 => uRevT K x H1 Q) : tRevT K te σ H Q := q
theorem r_revt (h : SqT K H a xs) (q : ∀ p H', H p = none → Same H H' → H' p = some (.tup xs.reverse) → Q (.ref p) H') : uRevT K (.ref a) H Q := ⟨a, xs, rfl, h, fun p hp => q p _ hp (Keep.same (Keep.new hp)) upd_same⟩
end
end Fp
/-! try, and what a suite asks of the error that it caught -/
namespace Fp
open PySem PySem.Spec PyProof.Rows L2
section
variable {X : Cx} {K : PySem.W.Frag} {σ : L2.St} {H H' : Hp} {Q : VK} {k j : Nat} {ps : List Str} {sp : Sp} {E : L2.St → XK} {x m n : Str} {p np pos pos' apos : Pos} {o e : Expr} {es : List Expr} {ta : TE} {t : TA} {C a : Addr} {c : Value} {i : Nat} {body suite : List Stmt} {b₀ : Stmt} {tb : WX → TS} {ts : Addr → Value → Option Addr → TS} {Wout : WX} {cls : Value} {d : Option Addr} {D : Ends}
/-- o.m(..) whose exceptions are wished for at the slots -/
def tMethUS (C : Addr) (m : Str) (sp : Sp) (E : L2.St → XK) (ta : TE) (t : TA) : TE := fun σ H Q => ta σ H fun x H1 => uMeth C m sp (E σ) t σ x H1 Q
theorem pe_methS {pl : Sem Bool} (G : MFn X.prog X.w X.K X.mg X.base k C m ps sp) (hr : Room j X.A) (c : Cls X.K C) (hx : ∀ σ, PassesAt (L2.CX X.prog X.w) X σ (E σ)) (he : PE X o ta) (ha : PA X (e :: es) t) (hk : k ≤ j := by decide)
    (hst : starEach (e :: es) X.env = (false, eval e X.env) :: starEach es X.env := by rfl) (hpl : (backTo pos (starEach es X.env)).any (·.1) = false := by rfl)
    (ht : eval (.Call (.Attribute o m apos) (e :: es) [] pos) X.env = (do
      let ov ← eval o X.env
      standAt apos.atName
      let (f, first) ← holding [ov] (getMethod ov m pl)
      callWith pos f first (backTo pos (starEach (e :: es) X.env)) (backToKw pos (keywordEach [] X.env))) := by rfl) :
    PE X (.Call (.Attribute o m apos) (e :: es) [] pos) (tMethUS C m sp E ta t) := by
  obtain ⟨f, fd, hm, hb, F⟩ := G.ex
  refine ⟨fun pins s σ H Q I h => ?_⟩
  refine PySem.W.methodCall_KW (pl := pl) (thn (he.run pins s σ H _ I h) fun u s1 ⟨x, H1, I1, rx, a, dx, fs, ex, ea, l, q⟩ => ?_) ht
  subst ex
  obtain rfl : u = Value.ref a := rx
  refine getmeth_ok I1 ea c hm l ?_
  refine PySem.W.callWith_K (first := [.ref a]) (h₀ := X.base) I.ok.mod.kin hm.kp (thn (ha.run pos pins s1 σ H1 _ I1 q) fun us s2 ⟨vs, H2, I2, r, q2⟩ => ⟨I2.kIn, ?_⟩) hst hpl
  exact run_fnS (us := .ref a :: us) (vs := .ref a :: vs) (F.mono hk) hr hb (hx σ) I2 (.cons rfl r) q2
theorem r_methS (q : ta σ H fun x H1 => uMeth C m sp (E σ) t σ x H1 Q) : tMethUS C m sp E ta t σ H Q := q
/-- try: .. except c as n: .. -/
def tTryAs (K : PySem.W.Frag) (c : Value) (i : Nat) (ts : Addr → Value → Option Addr → TS) (tb : WX → TS) : TS := fun D σ H => tb (wAs K c i ts (fun _ _ _ _ => False) D) D σ H
theorem ps_tryAs (hK : X.K = K) (hs : X.stack = X.env :: X.outer) (hf : X.env.frame = some X.env.locals) (hN : X.N.Nodup) (hi : X.N[i]? = some n) (hln : X.env.kindOf n = some .local) (hc : Names X x c)
    (hb : ∀ (W : WX) (pn : List (Addr × Obj)) (xe : Value → Shared → Prop), Takes (X.tr pn xe) W → PSs (X.tr pn xe) body (tb W))
    (hsu : ∀ (a : Addr) (oe : Obj) (cls : Value) (d : Option Addr) (pn : List (Addr × Obj)), Zc cls d oe → (∃ vs, oe.data = .fields vs) → PSs (X.suite a ((a, oe) :: pn)) (b₀ :: suite) (ts a cls d)) :
    PS X (.Try body [.ExceptHandler (some (.Name x np)) (some n) (b₀ :: suite) pos'] [] [] pos) (tTryAs K c i ts tb) := by
  subst hK
  exact L2.ps_try_as hs hf hN hi hln hc takes0 (fun W pn xe tk _ => hb W pn xe tk) hsu
theorem r_tryAs (q : tb (wAs K c i ts (fun _ _ _ _ => False) D) D σ H) : tTryAs K c i ts tb D σ H := q
theorem r_wAs {R : Addr} (e : PySem.W.exmOne K (.ref R) c = some true) (q : ∀ a, H a = none → ts a (.ref R) none { nx := fun σ' H' => D.nx (σ'.set i none) H', rt := D.rt, bk := fun σ' H' => D.bk (σ'.set i none) H', ct := fun σ' H' => D.ct (σ'.set i none) H' } (σ.set i (some (.ref a))) H) :
    WE (wAs K c i ts Wout D) σ (.ref R) none H := ⟨true, e, fun _ => q, fun z => by cases z⟩
/-- try: .. except c: .. -/
def tTryOnly (K : PySem.W.Frag) (c : Value) (ts : Addr → Value → Option Addr → TS) (tb : WX → TS) : TS := fun D σ H => tb (wOnly K c ts (fun _ _ _ _ => False) D) D σ H
theorem ps_tryOnly (hK : X.K = K) (hs : X.stack = X.env :: X.outer) (hf : X.env.frame = some X.env.locals) (hc : Names X x c)
    (hb : ∀ (W : WX) (pn : List (Addr × Obj)) (xe : Value → Shared → Prop), Takes (X.tr pn xe) W → PSs (X.tr pn xe) body (tb W))
    (hsu : ∀ (a : Addr) (oe : Obj) (cls : Value) (d : Option Addr) (pn : List (Addr × Obj)), Zc cls d oe → (∃ vs, oe.data = .fields vs) → PSs (X.suite a ((a, oe) :: pn)) (b₀ :: suite) (ts a cls d)) :
    PS X (.Try body [.ExceptHandler (some (.Name x np)) none (b₀ :: suite) pos'] [] [] pos) (tTryOnly K c ts tb) := by
  subst hK
  exact L2.ps_try_only hs hf hc takes0 (fun W pn xe tk _ => hb W pn xe tk) hsu
theorem r_tryOnly (q : tb (wOnly K c ts (fun _ _ _ _ => False) D) D σ H) : tTryOnly K c ts tb D σ H := q
theorem r_wOnly {R : Addr} (e : PySem.W.exmOne K (.ref R) c = some true) (q : ∀ a, H a = none → ts a (.ref R) none D σ H) :
    WE (wOnly K c ts Wout D) σ (.ref R) none H := ⟨true, e, fun _ => q, fun z => by cases z⟩
/-- isinstance(e, c), e the error that the suite holds at a -/
def uIsE (K : PySem.W.Frag) (cls : Value) (d : Option Addr) (a : Addr) : List V → Hp → VK → Prop := fun xs H Q => ∃ D, cls = .ref D ∧ d = none ∧ ExcC K D ∧ rIsE K D a xs H Q
theorem c_isE {oe : Obj} {pn : List (Addr × Obj)} (hz : Zc cls d oe) (hf : ∃ vs, oe.data = .fields vs) : CallR (X.suite a ((a, oe) :: pn)) (.builtin "isinstance") (uIsE X.K cls d a) := by
  intro pins s σ H xs us Q I r h
  obtain ⟨D, rfl, rfl, Cc, h⟩ := h
  exact L2.call_isE Cc hz hf pins s σ H xs us Q I r h
theorem c_isEK (K : PySem.W.Frag) {oe : Obj} {pn : List (Addr × Obj)} (hz : Zc cls d oe) (hf : ∃ vs, oe.data = .fields vs) (hK : X.K = K := by rfl) : CallR (X.suite a ((a, oe) :: pn)) (.builtin "isinstance") (uIsE K cls d a) := by
  subst hK
  exact c_isE hz hf
theorem r_isE {R T : Addr} {b : Bool} (Cc : ExcC K R) (e : PySem.W.kitOne K (.ref R) (.ref T) = some b) (q : Q (.bl b) H) : uIsE K (.ref R) none a [.ref a, .ref T] H Q :=
  ⟨R, rfl, rfl, Cc, .ref T, .ref T, b, rfl, fun _ r => r, e, q⟩
end
/-! ### of classes -/
theorem kit_true {K : PySem.W.Frag} {R T : Addr} (hd : PySem.W.hasDictIn K T = true) (ht : PySem.W.typeIn K (.ref T) = some (.type "type")) (h : PySem.W.subIn K (.ref R) (.ref T) = some true) : PySem.W.kitOne K (.ref R) (.ref T) = some true := by
  obtain ⟨cd, hc, _⟩ := PySem.W.any_some hd
  have e2 : ((PySem.W.clsIn K T).isSome && PySem.W.typeIn K (.ref T) == some (.type "type")) = true := by rw [hc, ht] <;> rfl
  unfold PySem.W.kitOne
  split
  · rfl
  · show (if ((PySem.W.clsIn K T).isSome && PySem.W.typeIn K (.ref T) == some (.type "type")) = true then PySem.W.subIn K (.ref R) (.ref T) else none) = some true
    rw [if_pos e2]
    exact h
theorem kit_false {K : PySem.W.Frag} {R T : Addr} (hd : PySem.W.hasDictIn K T = true) (ht : PySem.W.typeIn K (.ref T) = some (.type "type")) (hs : PySem.W.subIn K (.ref R) (.ref R) = some true) (h : PySem.W.subIn K (.ref R) (.ref T) = some false) : PySem.W.kitOne K (.ref R) (.ref T) = some false := by
  obtain ⟨cd, hc, _⟩ := PySem.W.any_some hd
  have e2 : ((PySem.W.clsIn K T).isSome && PySem.W.typeIn K (.ref T) == some (.type "type")) = true := by rw [hc, ht] <;> rfl
  have ne : ¬ ((Value.ref R == Value.ref T) = true) := fun z => by
    have e : R = T := Value.ref.inj (beq_iff_eq.mp z)
    subst e
    rw [hs] at h
    cases h
  unfold PySem.W.kitOne
  rw [if_neg ne]
  show (if ((PySem.W.clsIn K T).isSome && PySem.W.typeIn K (.ref T) == some (.type "type")) = true then PySem.W.subIn K (.ref R) (.ref T) else none) = some false
  rw [if_pos e2]
  exact h
/-! ### sorted(d), d by numbers, any number of them -/
def uSortedDW : List V → Hp → VK → Prop := fun xs H Q => ∃ (a : Addr) (kvs : List (Key × V)) (ks : List Int), xs = [.ref a] ∧ Rd H a (.dK kvs) ∧ kvs.map (·.1) = ks.map Sum.inl ∧ ks.length ≤ 100000 ∧
    ∀ (ys : List Int) (p : Addr), ys.Perm ks → ys.Pairwise (· ≤ ·) → H p = none → Q (.ref p) (upd H p (.lst (ys.map V.int)))
theorem c_sortedDW {X : Cx} (hcalm : X.calm = true) : CallR X (.builtin "sorted") uSortedDW := by
  intro pins s σ H xs us Q I r q
  obtain ⟨a, kvs, ks, ex, hd, hks, h64, q⟩ := q
  subst ex
  obtain ⟨u, eu, rx⟩ := vals1 r
  subst eu
  cases rx
  obtain ⟨z, lo, vs, rel, dd⟩ := dk_rd I.hok hd
  obtain ⟨ep, hat⟩ := dd.dictAt
  have hkeys : vs.map (·.1) = ks.map Sum.inl := rel.keys.symm.trans hks
  have hl : vs.length = ks.length := by
    have e := congrArg List.length hkeys
    rw [List.length_map, List.length_map] at e
    exact e
  have h16 : vs.length ≤ sizeLine := by rw [hl, sizeLine_eq]; omega
  refine Calls.call_function_entry PyProof.Rows.kind_sorted PyProof.Rows.plain_sorted PyProof.Rows.entry_sorted (PyProof.Rows.args_sorted1 _) ?_
  unfold Builtin.«sorted»
  refine wpAny_bind (m := checkCount "sorted" 1 1 _) (wpAny_pure ?_)
  refine wpAny_bind (PySem.W.kdu_collect (A := X.A.in1) (PySem.W.kdl_dict (knd := mixKind X.prog X.w) (kvs := vs) (ep := ep) lo) (I.ok.hd hcalm) hat h16 fun h' tk acc hk hacc => ?_)
  have hal : acc.toList.length = ks.length := by rw [Array.length_toList, hacc.1, hl]
  have hS : IntsAre acc.toList ks := ints_each hal fun j v e => by
    obtain ⟨k, x, e1, e2⟩ := hacc.2 j v (by rw [← Array.getElem?_toList]; exact e)
    have e3 : (vs.map (·.1))[j]? = some k := by rw [List.getElem?_map, e1]; rfl
    rw [hkeys, List.getElem?_map] at e3
    cases e4 : ks[j]? with
    | none => rw [e4] at e3; cases e3
    | some y =>
      rw [e4] at e3
      have e5 : Sum.inl y = k := Option.some.inj e3
      subst e5
      rcases keyIs_shape (show keyIs (Sum.inl y) v = true from e2) with ⟨i, t, ek, ev⟩ | ⟨z, t, ek, ev⟩
      · cases ek
        exact ⟨y, t, rfl, ev⟩
      · cases ek
  have I1 : Inv X pins σ H { s with heap := h', toks := tk } := I.kept hk
  have hz : acc.toList.length ≤ sizeLine := by rw [hal, sizeLine_eq]; omega
  refine wpAny_bind (wpAny_newList ?_ hz)
  have hoL : (h'.push (seqObj "list" acc.toList.toArray 0)).get? h'.objs.size = some (seqObj "list" acc.toList.toArray 0) := Heap.get?_push_size _ rfl
  show wpAny _ _ _ _ _ { s with heap := h'.push (seqObj "list" acc.toList.toArray 0), toks := tk }
  refine wpAny_bind (wpAny_holding (wpAny_call_entry PyProof.Rows.slot_list_sort ⟨_, hoL, rfl⟩ PyProof.Rows.entry_list_sort
    (SrtO.list_sort_ord (s := { s with heap := h'.push (seqObj "list" acc.toList.toArray 0), toks := tk }) SrtO.swo_int hoL hz (fun h2 => SrtO.ints_sortable hS h2) fun out o1 o2 => ⟨_, rfl, ?_⟩) (PyProof.Rows.args_list_sort _)))
  obtain ⟨k1, k2, k3⟩ := SrtO.ints_out hS o1 o2
  obtain ⟨e', he'⟩ := PyProof.Rows.sortedHeap_at (vs := acc.toList) (out := out.toArray) hoL
  have hlen : ((out.map SrtO.iv).map V.int).length ≤ sizeLine := by
    rw [List.length_map, k2.length_eq, sizeLine_eq]
    omega
  refine wpAny_pure ⟨_, rfl, .ref h'.objs.size, upd H h'.objs.size (.lst ((out.map SrtO.iv).map V.int)), I1.laid (t' := tk) (fun b u e => ?_) (Nat.le_refl _)
    (show ObjOk X.prog X.w _ _ _ (.lst ((out.map SrtO.iv).map V.int)) from ⟨hlen, out, e', vals_of_ints k1, he'⟩), rfl, q _ _ k2 k3 (I1.hok.fresh (Nat.le_refl _))⟩
  have hb : b < h'.objs.size := Heap.lt_size e
  rw [PyProof.Rows.sortedHeap_old (Nat.ne_of_lt hb) (by rw [size_push']; exact Nat.lt_succ_of_lt hb)]
  exact Heap.get?_push_of_some _ e
theorem r_sortedDW {H : Hp} {Q : VK} {a : Addr} {m : Prs} (hd : H a = some (.dK (m.map inj))) (hl : m.length ≤ 100000) (q : ∀ (ys : List Int) p H', ys.Perm (m.map (·.1)) → ys.Pairwise (· ≤ ·) → H p = none → Same H H' → H' p = some (.lst (ys.map V.int)) → Q (.ref p) H') : uSortedDW [.ref a] H Q :=
  ⟨a, m.map inj, m.map (·.1), rfl, .inl hd, by rw [List.map_map, List.map_map]; rfl, by simpa using hl, fun ys p h1 h2 h3 => q ys p _ h1 h2 h3 (Keep.same (Keep.new h3)) upd_same⟩
/-! ### d == {} -/
section
variable {X : Cx} {H : Hp} {Q : VK} {a b : Addr}
def uEqNoD : R2 := fun x y H Q => ∃ (a b : Addr) (kvs : List (Key × V)), x = .ref a ∧ y = .ref b ∧ H a = some (.dK kvs) ∧ H b = some (.dK []) ∧ Q (.bl (decide (kvs = []))) H
theorem o_eqNoD (hu : X.A.units + 64 < cLine) : OpR X (compareOp .Eq) uEqNoD := by
  intro pins s σ H x y v u Q I rx ry h
  obtain ⟨a, b, kvs, rfl, rfl, ha, hb, q⟩ := h
  obtain rfl : v = Value.ref a := rx
  obtain rfl : u = Value.ref b := ry
  obtain ⟨_, ya, va, ra, da⟩ := (show ObjOk X.prog X.w H s.heap a (.dK kvs) from I.hok a _ ha)
  obtain ⟨_, yb, vb, rb, db⟩ := (show ObjOk X.prog X.w H s.heap b (.dK []) from I.hok b _ hb)
  cases rb
  cases kvs with
  | nil =>
    cases ra
    exact PySem.W.rcP_dicts (knd := mixKind X.prog X.w) (r := true) ya yb da db (by omega) (fun _ => .nil) _ _ ⟨.bl true, H, I, rfl, q⟩
  | cons x r =>
    have hl := ra.length
    refine PySem.W.rcP_dicts (knd := mixKind X.prog X.w) (r := true) ya yb da db (by omega) (fun z => ?_) _ _ ⟨.bl false, H, I, ?_, q⟩
    · rw [← hl] at z
      simp at z
    · rw [← hl]
      rfl
theorem r_eqNoD {m : Prs} (ha : H a = some (.dK (m.map inj))) (hb : H b = some (.dK [])) (q : Q (.bl (decide (m = []))) H) : uEqNoD (.ref a) (.ref b) H Q := by
  refine ⟨a, b, _, rfl, rfl, ha, hb, ?_⟩
  have e : decide (m.map inj = []) = decide (m = []) := by cases m <;> rfl
  rw [e]
  exact q
end
/-! ### a comprehension, one object p being changed in each turn, the turns counted -/
section
variable {K : PySem.W.Frag} {σ : L2.St} {H H' : Hp} {Q : VK} {te : TE} {tt : TT} {g : TG} {vs : List Nat} {J : It} {src : Hp → Prop} {item : Nat → Hp → V → Hp → Prop} {a : Addr}
theorem lc_genKi {α : Type} {p : Addr} (I : Nat → Hp → Prop) (h0 : I 0 H) (hne : ∀ D, H D = none → D ≠ p) (hU : ∀ i H1 D ys, H D = none → I i H1 → (H1 D = none ∨ ∃ l, H1 D = some (.lst l)) → I i (upd H1 D (.lst ys))) (hT : ∀ i H1 H2, I i H1 → Keep (At p) H1 H2 → TExt H1 H2)
    (as : List α) (It1 : α → V → Hp → Prop) (w : Wk J as.length src item) (hit : ∀ i H x H', i < as.length → item i H x H' → ∃ c, as[i]? = some c ∧ H' = H ∧ It1 c x H') (hsrc : ∀ H', Keep (At p) H H' → (∃ i, I i H') → src H')
    (hn : as.length ≤ 16777216) (R : Hp → α → V → Prop) (hR : ∀ H H' c y, TExt H H' → R H c y → R H' c y)
    (hs : ∀ j c x H2 (S : VK) (N : Hp → Prop), as[j]? = some c → Keep (At p) H H2 → I j H2 → It1 c x H2 → (∀ y H3, Keep (At p) H2 H3 → I (j + 1) H3 → R H3 c y → S y H3) →
      g x (wipe σ vs) H2 fun σ2 H3 => wipe σ2 vs = wipe σ vs ∧ tYes σ2 H3 fun b H4 => if b = true then te σ2 H4 S else N H4)
    (q : ∀ D H' ys, H D = none → Keep (At p) H H' → I as.length H' → H' D = some (.lst ys) → Paired (R H') as ys → Q (.ref D) H') : LcW J g tYes te vs σ H Q := by
  refine lc_wk w (fun D i H' => H D = none ∧ Keep (At p) H H' ∧ I i H' ∧ ∃ ys, H' D = some (.lst ys) ∧ Paired (R H') (as.take i) ys) (fun D hD => ⟨hD, fun b o e _ => by rw [upd_ne (ne_of_none e hD)]; exact e, hU _ _ _ _ hD h0 (.inl hD), [], by simp [upd_same], by simpa using Paired.nil⟩)
    (fun D i H' _ p => hsrc H' p.2.1 ⟨_, p.2.2.1⟩) ?_ (fun D H' hD p => by obtain ⟨p1, p2, p3, ys, p4, p5⟩ := p; rw [List.take_length] at p5; exact q D H' ys hD p2 p3 p4 p5)
  rintro D i x H2 H' hD hi ⟨p1, p2, p3, ys, p4, p5⟩ hx
  obtain ⟨c, hc, rfl, hI⟩ := hit i H2 x H' hi hx
  refine hs i c x H' _ _ hc p2 p3 hI (fun y H3 k3 i3 r3 => ⟨ys, k3 _ _ p4 (hne D hD), by rw [sizeLine_eq, ← p5.length, List.length_take]; omega, hD, ?_, hU _ _ _ _ hD i3 (.inr ⟨ys, k3 _ _ p4 (hne D hD)⟩), ys ++ [y], upd_same, ?_⟩)
  · exact (p2.trans k3).free hD
  · have e3 := k3 _ _ p4 (hne D hD)
    have t3 := hT _ _ _ p3 k3
    have t4 : TExt H3 (upd H3 D (.lst (ys ++ [y]))) := TExt.lst Keep.at_ e3
    rw [take_snoc hc]
    exact (Paired.mapP p5 fun u z r => hR _ _ _ _ (t3.trans t4) r).snoc (hR _ _ _ _ t4 r3)
end
/-! ### isinstance of the caught error: a built-in class, a tuple of classes -/
section
variable {X : Cx} {K : PySem.W.Frag} {H : Hp} {Q : VK} {a : Addr} {cls : Value} {d : Option Addr}
/-- isinstance(e, T), T a built-in class -/
theorem r_isET {R : Addr} {T : String} {b : Bool} (Cc : ExcC K R) (e : PySem.W.kitOne K (.ref R) (.type T) = some b) (q : Q (.bl b) H) : uIsE K (.ref R) none a [.ref a, .ty T] H Q :=
  ⟨R, rfl, rfl, Cc, .ty T, .type T, b, rfl, fun _ r => r, e, q⟩
/-- isinstance(e, (c1, c2, ..)) -/
def uIsEA (K : PySem.W.Frag) (cls : Value) (d : Option Addr) (a : Addr) : List V → Hp → VK → Prop := fun xs H Q => ∃ (D tp : Addr) (cs : List V) (us : List Value) (b : Bool), cls = .ref D ∧ d = none ∧ ExcC K D ∧ xs = [.ref a, .ref tp] ∧ H tp = some (.tup cs) ∧ Paired ClsV cs us ∧ PySem.W.kitAny K (.ref D) us = some b ∧ Q (.bl b) H
theorem c_isEA {oe : Obj} {pn : List (Addr × Obj)} (hz : Zc cls d oe) (hf : ∃ vs, oe.data = .fields vs) : CallR (X.suite a ((a, oe) :: pn)) (.builtin "isinstance") (uIsEA X.K cls d a) := by
  intro pins s σ H xs us Q I r h
  obtain ⟨D, tp, cs, ws, b, rfl, rfl, C, rfl, hT, k, e, q⟩ := h
  obtain ⟨u1, u2, rfl, r1, r2⟩ := vals2 r
  cases (show u1 = Value.ref a from r1)
  cases (show u2 = Value.ref tp from r2)
  obtain ⟨hget, _⟩ := I.pin (a, oe) (List.mem_append.mpr (.inl List.mem_cons_self))
  obtain ⟨vs, hv⟩ := hf
  have J : PySem.W.InstAt s.heap a oe D none := by
    obtain ⟨oc, od, oda, osl⟩ := oe
    obtain ⟨h1, h2⟩ := hz
    dsimp only at h1 h2 hv
    subst h1 h2 hv
    exact ⟨hget, rfl, rfl, trivial⟩
  obtain ⟨_, its, rv, o, h1, h2, n, h3⟩ := (show ObjOk X.prog X.w H s.heap tp (.tup cs) from I.hok tp _ hT)
  have e3 := ClsV.all k rv
  subst e3
  obtain ⟨oc, od, dt, sl⟩ := o
  simp only at h2 h3
  subst h2 h3
  exact PySem.W.kia_tup (PySem.W.handS_kitx_exc C.hg C.hk C.hs C.hd C.ha C.hn C.ht C.hm) I.kIn J h1 e (fun z => nomatch z) fun tk => ⟨.bl b, H, I.kept (t' := tk) fun _ _ z => z, rfl, q⟩
theorem c_isEAK (K : PySem.W.Frag) {oe : Obj} {pn : List (Addr × Obj)} (hz : Zc cls d oe) (hf : ∃ vs, oe.data = .fields vs) (hK : X.K = K := by rfl) : CallR (X.suite a ((a, oe) :: pn)) (.builtin "isinstance") (uIsEA K cls d a) := by
  subst hK
  exact c_isEA hz hf
/-- of classes none of which the error is of -/
inductive NoneOf (K : PySem.W.Frag) (R : Addr) : List Addr → Prop where
  | nil : NoneOf K R []
  | cons {T : Addr} {Ts : List Addr} : PySem.W.kitOne K (.ref R) (.ref T) = some false → NoneOf K R Ts → NoneOf K R (T :: Ts)
theorem NoneOf.any {R : Addr} : ∀ {Ts : List Addr}, NoneOf K R Ts → PySem.W.kitAny K (.ref R) (Ts.map Value.ref) = some false
  | _, .nil => rfl
  | _, .cons h t => kitAny_cons h (fun _ => t.any) (fun z => by cases z)
theorem clsV_refs : ∀ Ts : List Addr, Paired ClsV (Ts.map V.ref) (Ts.map Value.ref)
  | [] => .nil
  | T :: Ts => .cons (.own T) (clsV_refs Ts)
theorem r_isEA {R tp : Addr} {Ts : List Addr} (Cc : ExcC K R) (h : H tp = some (.tup (Ts.map V.ref))) (n : NoneOf K R Ts) (q : Q (.bl false) H) : uIsEA K (.ref R) none a [.ref a, .ref tp] H Q :=
  ⟨R, tp, _, _, false, rfl, rfl, Cc, rfl, h, clsV_refs Ts, n.any, q⟩
end
/-! rules whose K is told (a suite's context hides it) -/
theorem o_eqK {X : Cx} (K : PySem.W.Frag) (hu : X.A.units + 64 < cLine) (hK : X.K = K := by rfl) : OpR X (compareOp .Eq) (uEq K) := hK ▸ o_eq hu
theorem o_neK {X : Cx} (K : PySem.W.Frag) (hu : X.A.units + 64 < cLine) (hK : X.K = K := by rfl) : OpR X (compareOp .NotEq) (uNe K) := hK ▸ o_ne hu
theorem o_inSeq {X : Cx} (K : PySem.W.Frag) (hK : X.K = K := by rfl) : OpR X (compareOp .In) (rIn K false) := hK ▸ op_in_seq
/-! C(..) within a try -/
section
variable {X : Cx} {σ : L2.St} {H : Hp} {Q : VK} {k j : Nat} {ps : List Str} {sp : Sp} {E : L2.St → XK} {x : Str} {p pos : Pos} {e : Expr} {es : List Expr} {t : TA} {C : Addr}
def tMakeUS (C : Addr) (sp : Sp) (E : L2.St → XK) (t : TA) : TE := fun σ H Q => t σ H fun vs H1 => uMake C sp [] (E σ) vs H1 Q
theorem r_makeS (q : t σ H fun vs H1 => uMake C sp [] (E σ) vs H1 Q) : tMakeUS C sp E t σ H Q := q
theorem pe_makeS (G : PFn X.prog X.w X.K X.mg X.base k C ps sp) (T : ClT X.K X.mg x C) (hr : Room (j + 1) X.A) (hx : ∀ σ, PassesAt (L2.CX X.prog X.w) X σ (E σ)) (ha : PA X (e :: es) t) (hk : k ≤ j := by decide) (hg : Gl X x := by rfl)
    (hdb : (x == ("__debug__" : Str)) = false := by decide) (he : starEach (e :: es) X.env = (false, eval e X.env) :: starEach es X.env := by rfl) (hpl : (backTo pos (starEach es X.env)).any (·.1) = false := by rfl) :
    PE X (.Call (.Name x p) (e :: es) [] pos) (tMakeUS C sp E t) := by
  obtain ⟨f, fd, M, hb, F0⟩ := G.ex
  have F := F0.mono hk
  refine ⟨fun pins s σ H Q I h => ?_⟩
  refine wpAny_Call_Name_kw (ld_glob I hg T.g ?_ hdb)
  refine PySem.W.callWith_K (h₀ := X.base) I.ok.mod.kin M.kp (thn (ha.run pos pins s σ H _ I h) fun us s1 ⟨vs, H1, I1, r, q⟩ => ⟨I1.kIn, ?_⟩) he hpl
  -- the instance is made, then __init__ runs on it
  have hq := q (s1.heap.objs.size + 1) s1.heap.objs.size (I1.hok.fresh (Nat.le_succ _)) (I1.hok.fresh (Nat.le_refl _)) (Nat.ne_of_lt (Nat.lt_succ_self _))
  rw [List.append_nil] at hq
  have I2 := Inv.made (C := C) I1
  have r2 : Vals (V.ref (s1.heap.objs.size + 1) :: vs) (Value.ref (s1.heap.objs.size + 1) :: us) := .cons rfl r
  have hl : (Value.ref (s1.heap.objs.size + 1) :: us).length = ps.length := by
    rw [← r2.length, F.len _ _ _ _ hq]
  have bnd := hb _ (Value.ref (s1.heap.objs.size + 1) :: us) I2.kIn (by simpa using hl)
  rw [List.append_nil] at bnd
  refine wpAny_call (make_map (f := f) I1.kIn M.makes M.init (beq_iff_eq.mp M.fn) (codeAny_mono (F.run _ X.stack _ _ ⟨Value.ref (s1.heap.objs.size + 1) :: us, []⟩ (Value.ref (s1.heap.objs.size + 1) :: us) _ _ (E σ) (hr.make C us [])
    (I2.env0.make C us []) bnd r2 hq) fun r s' hq' => ?_))
  cases r with
  | error e => exact hx σ pins _ _ e s' I2 hq'
  | ok fl =>
    cases fl with
    | ret u =>
      obtain ⟨v, H', I3, rv, ev, q3⟩ := I2.after hq'
      subst ev
      exact ⟨rv, ⟨V.ref (s1.heap.objs.size + 1), H', I3, rfl, q3⟩⟩
    | next => exact False.elim hq'
    | brk => exact False.elim hq'
    | cont => exact False.elim hq'
end
end Fp
/-! defs that are asked of the error that a suite holds -/
namespace Fp
open PySem PySem.Spec PyProof.Rows L2
open L2H (RoomH PinOk cxH)
/-- what such a def promises; the error is p -/
structure FnE (P : Program) (w : World) (K : PySem.W.Frag) (mg : Str → Option Value) (base : Heap) (k : Nat) (f : Addr) (fd : FuncData) (ps : List Str) (sp : Addr × Obj → Sp) : Prop where
  len : ∀ p vs H Q E, sp p vs H Q E → vs.length = ps.length
  run : ∀ (A : Around) (outer : List Env) (s : Shared) (H : Hp) (args : Args) (us : List Value) (vs : List V) (Q : VK) (E : XK) (p : Addr × Obj), RoomH k A → PinOk outer H s p → Env0 P w K mg base A outer s H → BindsTo s fd args (ps.zip us) → Vals vs us → sp p vs H Q E →
    codeAny (model P w) A (.call (.ref f) args) (CR CX0 outer P w H s Q E) s
structure FnX (P : Program) (w : World) (K : PySem.W.Frag) (mg : Str → Option Value) (base : Heap) (k : Nat) (x : Str) (ps : List Str) (sp : Addr × Obj → Sp) : Prop where
  ex : ∃ f fd, mg x = some (.ref f) ∧ PySem.W.keepIn K (.ref f) = true ∧ Binds K fd ps [] ∧ FnE P w K mg base k f fd ps sp
section
variable {P : Program} {w : World} {K : PySem.W.Frag} {mg : Str → Option Value} {base : Heap}
theorem fnE_of {k : Nat} {f : Addr} {name qual : Str} {params : Arguments} {body : List Stmt} {scope : Scope} {dV kV doc pm cdv ct oc : Value} {an od : Option Addr} {osl : Array (Option Value)} {N ps : List Str} {sp : Addr × Obj → Sp}
    (there : K.lookup f = some ⟨oc, od, .func (PySem.W.fnOf name qual params body scope dV kV doc pm an cdv ct), osl⟩) (code : PySem.W.codeIn K cdv qual = true) (S : FnScope N ps scope) (len : ∀ p vs H Q E, sp p vs H Q E → vs.length = ps.length)
    (walks : ∀ (A : Around) (outer : List Env) (s : Shared) (H : Hp) (vs : List V) (Q : VK) (E : XK) (p : Addr × Obj), RoomH k (A.deeper (envOfC qual scope s.heap.objs.size f cdv)) → sp p vs H Q E →
      ∃ t, PSs (cxH CX0 P w K mg base N qual scope f cdv A outer s H E p) body t ∧ t { nx := fun _ H' => Q .non H', rt := Q } (L2.start N vs) H) :
    FnE P w K mg base (k + 1) f (PySem.W.fnOf name qual params body scope dV kV doc pm an cdv ct) ps sp := by
  refine ⟨len, fun A outer s H args us vs Q E p room pin env bound vals says => ?_⟩
  have all : K.In s.heap := env.mod.kin.keeps fun b o e => (env.bs b o e).1
  have free : s.heap.NoLimit := env.mod.nolimit.keeps fun b o e => (env.bs b o e).1
  have kinds : ∀ y ∈ ps.zip us, scope.names.lookup y.1 = some .local ∨ (scope.names.lookup y.1 = some .cell ∧ ((cellsFrom (s.heap.objs.size + 1) scope.names []).lookup y.1).isSome = true) := fun y hy => by
    obtain ⟨n, v⟩ := y
    exact (S.par n (List.of_mem_zip hy).1).imp id fun z => ⟨z, PySem.W.cellsFrom_some _ _ _ (.inl z)⟩
  refine codeAny_call_function room.depth (all _ _ there) rfl S.co S.gen rfl (PySem.W.codeRec_of all code) (bound _ _ _ _ (wpAny_newFunctionEnv_cells S.kind kinds fun e he s1 x => ?_))
  subst he
  obtain ⟨t, ht, want⟩ := walks A outer s H vs Q E p (room.deeper _) says
  refine ⟨free.keeps x.toInCall.keep, codeAny_func (wpAny_mono (ht.run [] s1 (L2.start N vs) H _ (L2H.inv_startH S pin env (len _ _ _ _ _ says) vals x) want) (fun fl t1 hs => ?_) fun e t1 hs => hs)⟩
  cases fl with
  | ret u => obtain ⟨v, σ', H', J, rv, q⟩ := hs; exact ⟨v, H', J.os, J.bare, J.base, J.hok, rv, q⟩
  | next => obtain ⟨σ', H', J, q⟩ := hs; exact ⟨.non, H', J.os, J.bare, J.base, J.hok, rfl, q⟩
  | brk => obtain ⟨_, _, _, q⟩ := hs; exact False.elim q
  | cont => obtain ⟨_, _, _, q⟩ := hs; exact False.elim q
theorem Def.okE {x : Str} {st : Stmt} {N ps : List Str} {k : Nat} {sp : Addr × Obj → Sp} (D : Def K mg x st ps) (S : FnScope N ps (defScope st)) (len : ∀ p vs H Q E, sp p vs H Q E → vs.length = ps.length)
    (walks : ∀ (f : Addr) (cdv : Value) (A : Around) (outer : List Env) (s : Shared) (H : Hp) (vs : List V) (Q : VK) (E : XK) (p : Addr × Obj), RoomH k (A.deeper (envOfC x (defScope st) s.heap.objs.size f cdv)) → sp p vs H Q E →
      ∃ t, PSs (cxH CX0 P w K mg base N x (defScope st) f cdv A outer s H E p) (defBody st) t ∧ t { nx := fun _ H' => Q .non H', rt := Q } (L2.start N vs) H) : FnX P w K mg base (k + 1) x ps sp := by
  obtain ⟨f, fd, F, hm, hb⟩ := D.ex
  refine ⟨f, fd, hm, F.kp, hb, ?_⟩
  obtain ⟨oc, od, kV, doc, pm, an, cdv, ct, osl, rfl, there, code⟩ := F.ex
  exact fnE_of there code S len fun A outer s H vs Q E p room says => walks f cdv A outer s H vs Q E p room says
end
theorem _root_.L2H.RoomH.units {k : Nat} {A : Around} (r : RoomH k A) : A.units + 64 < cLine := by have := r.un; omega
section
variable {X : Cx} {k j : Nat} {ps : List Str} {sp : Addr × Obj → Sp} {x : Str} {p pos : Pos} {e : Expr} {es : List Expr} {t : TA} {a : Addr} {oe : Obj} {pn : List (Addr × Obj)} {cls : Value} {d : Option Addr} {σ : L2.St} {H : Hp} {Q : VK}
/-- f(e), e the error that the suite holds at a -/
def tErr (cls : Value) (d : Option Addr) (a : Addr) (sp : Addr × Obj → Sp) (t : TA) : TE := fun σ H Q => t σ H fun vs H1 => ∀ oe : Obj, Zc cls d oe → (∃ vs, oe.data = .fields vs) → sp (a, oe) vs H1 Q E0
theorem pe_callErr (F : FnX X.prog X.w X.K X.mg X.base k x ps sp) (hr : Room j X.A) (hz : Zc cls d oe) (hf : ∃ vs, oe.data = .fields vs) (ha : PA (X.suite a ((a, oe) :: pn)) (e :: es) t) (hk : k ≤ j := by decide) (hg : Gl (X.suite a ((a, oe) :: pn)) x := by rfl)
    (hdb : (x == ("__debug__" : Str)) = false := by decide) (he : starEach (e :: es) (X.suite a ((a, oe) :: pn)).env = (false, eval e (X.suite a ((a, oe) :: pn)).env) :: starEach es (X.suite a ((a, oe) :: pn)).env := by rfl) (hpl : (backTo pos (starEach es (X.suite a ((a, oe) :: pn)).env)).any (·.1) = false := by rfl) :
    PE (X.suite a ((a, oe) :: pn)) (.Call (.Name x p) (e :: es) [] pos) (tErr cls d a sp t) := by
  obtain ⟨f, fd, hm, hkp, hb, G⟩ := F.ex
  have room : RoomH k (X.suite a ((a, oe) :: pn)).A := ⟨by have := hr.dp; show X.A.depth + 3 * k + 5 < _; omega, by have := hr.un; show X.A.units + 16 * k + 200 < _; omega⟩
  refine ⟨fun pins s σ H Q I h => wpAny_Call_Name_kw (ld_glob I hg hm ?_ hdb)⟩
  refine PySem.W.callWith_K (h₀ := X.base) I.ok.mod.kin hkp (thn (ha.run pos pins s σ H _ I h) fun us s1 ⟨vs, H1, I1, r, q⟩ => ⟨I1.kIn, ?_⟩) he hpl
  have q := q oe hz hf
  have hl : us.length = ps.length := by rw [← r.length]; exact G.len _ _ _ _ _ q
  have bnd := hb s1 us I1.kIn (by rw [List.append_nil]; exact hl)
  rw [List.append_nil] at bnd
  obtain ⟨g1, g2, g3, g4, g5⟩ := I1.pin (a, oe) (List.mem_append_left _ List.mem_cons_self)
  have pin : PinOk (X.suite a ((a, oe) :: pn)).stack H1 s1 (a, oe) := ⟨g1, g2, fun hm => (List.mem_cons.mp (I1.stkSub a hm)).elim g3 g4, g5⟩
  refine wpAny_call (codeAny_mono (G.run _ _ s1 H1 ⟨us, []⟩ us vs Q E0 (a, oe) room pin I1.env0 bnd r q) fun r s' hq => ?_)
  cases r with
  | error e => exact False.elim hq
  | ok fl =>
    cases fl with
    | ret u => exact I1.after hq
    | next => exact False.elim hq
    | brk => exact False.elim hq
    | cont => exact False.elim hq
theorem r_callErr (q : t σ H fun vs H1 => ∀ oe : Obj, Zc cls d oe → (∃ vs, oe.data = .fields vs) → sp (a, oe) vs H1 Q E0) : tErr cls d a sp t σ H Q := q
end
/-! isinstance(e, C) in such a def -/
section
variable {X : Cx} {K : PySem.W.Frag} {H : Hp} {Q : VK} {a : Addr} {oe : Obj}
/-- isinstance(e, ..): of one class, or of a tuple of classes -/
def uIsP (K : PySem.W.Frag) (p : Addr × Obj) : List V → Hp → VK → Prop := fun xs H Q => ∃ D, Zc (.ref D) none p.2 ∧ (∃ vs, p.2.data = .fields vs) ∧ ExcC K D ∧ ((∃ (c : V) (cv : Value) (b : Bool), xs = [.ref p.1, c] ∧ (∀ u, RelV c u → u = cv) ∧ PySem.W.kitOne K (.ref D) cv = some b ∧ Q (.bl b) H) ∨
  ∃ (tp : Addr) (cs : List V) (us : List Value) (b : Bool), xs = [.ref p.1, .ref tp] ∧ H tp = some (.tup cs) ∧ Paired ClsV cs us ∧ PySem.W.kitAny K (.ref D) us = some b ∧ Q (.bl b) H)
theorem c_isP {p : Addr × Obj} (hp : p ∈ X.pn) : CallR X (.builtin "isinstance") (uIsP X.K p) := by
  intro pins s σ H xs us Q I r h
  obtain ⟨D, hz, ⟨fs, hv⟩, C, h⟩ := h
  obtain ⟨a, oe⟩ := p
  obtain ⟨hget, _⟩ := I.pin (a, oe) (List.mem_append.mpr (.inl hp))
  have J : PySem.W.InstAt s.heap a oe D none := by
    obtain ⟨oc, od, oda, osl⟩ := oe
    obtain ⟨h1, h2⟩ := hz
    dsimp only at h1 h2 hv
    subst h1 h2 hv
    exact ⟨hget, rfl, rfl, trivial⟩
  rcases h with ⟨c, cv, b, rfl, hcv, e, q⟩ | ⟨tp, cs, ws, b, rfl, hT, k, e, q⟩
  · obtain ⟨u1, u2, rfl, r1, r2⟩ := vals2 r
    cases (show u1 = Value.ref a from r1)
    have ec := hcv _ r2
    subst ec
    exact PySem.W.kia_one (PySem.W.handS_kitx_exc C.hg C.hk C.hs C.hd C.ha C.hn C.ht C.hm) I.kIn J e (fun z => nomatch z) fun tk => ⟨.bl b, H, I.kept (t' := tk) fun _ _ z => z, rfl, q⟩
  · obtain ⟨u1, u2, rfl, r1, r2⟩ := vals2 r
    cases (show u1 = Value.ref a from r1)
    cases (show u2 = Value.ref tp from r2)
    obtain ⟨_, its, rv, o, g1, g2, n, g3⟩ := (show ObjOk X.prog X.w H s.heap tp (.tup cs) from I.hok tp _ hT)
    have e3 := ClsV.all k rv
    subst e3
    obtain ⟨oc, od, dt, sl⟩ := o
    simp only at g2 g3
    subst g2 g3
    exact PySem.W.kia_tup (PySem.W.handS_kitx_exc C.hg C.hk C.hs C.hd C.ha C.hn C.ht C.hm) I.kIn J g1 e (fun z => nomatch z) fun tk => ⟨.bl b, H, I.kept (t' := tk) fun _ _ z => z, rfl, q⟩
theorem c_isPK (K : PySem.W.Frag) {p : Addr × Obj} (hp : p ∈ X.pn) (hK : X.K = K := by rfl) : CallR X (.builtin "isinstance") (uIsP K p) := hK ▸ c_isP hp
theorem r_isP {p : Addr × Obj} {R T : Addr} {b : Bool} (hz : Zc (.ref R) none p.2) (hf : ∃ vs, p.2.data = .fields vs) (Cc : ExcC K R) (e : PySem.W.kitOne K (.ref R) (.ref T) = some b) (q : Q (.bl b) H) : uIsP K p [.ref p.1, .ref T] H Q :=
  ⟨R, hz, hf, Cc, .inl ⟨.ref T, .ref T, b, rfl, fun u r => r, e, q⟩⟩
theorem r_isPT {p : Addr × Obj} {R tp : Addr} {Ts : List Addr} (hz : Zc (.ref R) none p.2) (hf : ∃ vs, p.2.data = .fields vs) (Cc : ExcC K R) (h : H tp = some (.tup (Ts.map V.ref))) (n : NoneOf K R Ts) (q : Q (.bl false) H) : uIsP K p [.ref p.1, .ref tp] H Q :=
  ⟨R, hz, hf, Cc, .inr ⟨tp, _, _, false, rfl, h, clsV_refs Ts, n.any, q⟩⟩
end
end Fp
namespace Lk24
open PySem PySem.Spec PyProof.Rows L2 Fp
/-! steps by their head -/
local macro_rules | `(tactic| walk_at "s") => `(tactic| first
  | (with_reducible refine' r_seq ?_)
  | (with_reducible refine' r_cons ?_)
  | ((with_reducible refine' r_var ?hvv ?_); (case hvv => exact rfl))
  | (with_reducible refine' r_c ?_)
  | (with_reducible refine' r_nil ?_)
  | (with_reducible refine' r_op ?_)
  | (with_reducible refine' r_tup ?_)
  | (with_reducible refine' r_lst ?_)
  | (with_reducible refine' r_I0 ?_)
  | (with_reducible refine' r_asg ?_)
  | (with_reducible refine' r_fn ?_)
  | (with_reducible refine' r_fnS ?_)
  | (with_reducible refine' r_CB ?_)
  | (with_reducible refine' r_ret ?_)
  | (with_reducible refine' r_ifS ?_)
  | (with_reducible refine' r_test ?_)
  | (with_reducible refine' r_B ?_)
  | (with_reducible refine' r_bl ?_)
  | (with_reducible refine' r_and ?_)
  | (with_reducible refine' r_or ?_)
  | (with_reducible refine' r_not ?_)
  | (with_reducible refine' r_yes ?_)
  | (with_reducible refine' r_andV ?_)
  | (with_reducible refine' r_orV ?_)
  | (with_reducible refine' r_notV ?_)
  | (with_reducible refine' r_if ?_)
  | (with_reducible refine' r_chain ?_)
  | (with_reducible refine' r_eq_i ?_)
  | (with_reducible refine' r_ne_i ?_)
  | (with_reducible refine' r_un ?_)
  | (with_reducible refine' r_U ?_)
  | (with_reducible refine' r_int_i ?_)
  | (with_reducible refine' r_int_b ?_)
  | (with_reducible refine' r_abs ?_)
  | (with_reducible refine' r_max2 ?_)
  | (with_reducible refine' r_min2 ?_)
  | (with_reducible refine' r_isB ?_)
  | (with_reducible refine' r_notB ?_)
  | (with_reducible refine' r_isN_n ?_)
  | (with_reducible refine' r_isN_i ?_)
  | (with_reducible refine' r_isN_r ?_)
  | (with_reducible refine' r_isN_s ?_)
  | (with_reducible refine' r_notN_n ?_)
  | (with_reducible refine' r_notN_i ?_)
  | (with_reducible refine' r_notN_r ?_)
  | (with_reducible refine' r_notN_s ?_)
  | ((with_reducible refine' r_isN ?hvv ?_); (case hvv => exact rfl))
  | ((with_reducible refine' r_notN ?hvv ?_); (case hvv => exact rfl))
  | ((with_reducible refine' r_aug ?hvv ?_); (case hvv => exact rfl))
  | (with_reducible refine' r_ipI ?_)
  | (with_reducible refine' r_next ?_)
  | (with_reducible refine' r_par ?_)
  | (with_reducible refine' r_par2 ?_)
  | (with_reducible refine' r_drop ?_)
  | (with_reducible refine' r_gname ?_)
  | (with_reducible refine' r_asgG ?_)
  | (with_reducible refine' r_gsub ?_)
  | (with_reducible refine' r_gcons ?_)
  | (with_reducible refine' r_gnil ?_)
  | (with_reducible refine' r_retN ?_)
  | (with_reducible refine' r_for ?_)
  | (with_reducible refine' r_lc ?_)
  | (with_reducible refine' r_ilist ?_)
  | (with_reducible refine' r_itup ?_)
  | (with_reducible refine' r_irng1 ?_)
  | (with_reducible refine' r_irng2 ?_)
  | (with_reducible refine' r_izip ?_)
  | (with_reducible refine' r_sl ?_)
  | (with_reducible refine' r_nopart ?_)
  | (with_reducible refine' r_part ?_)
  | (with_reducible refine' r_parti ?_)
  | (with_reducible refine' r_bm ?_)
  | (with_reducible refine' r_m1 ?_)
  | (with_reducible refine' r_m1s ?_)
  | (with_reducible refine' r_irngU ?_)
  | (with_reducible refine' r_bm0 ?_)
  | (with_reducible refine' r_revL ?_)
  | (with_reducible refine' r_isi_ii ?_)
  | (with_reducible refine' r_isi_ib ?_)
  | (with_reducible refine' r_isi_it ?_)
  | (with_reducible refine' r_isi_is ?_)
  | (with_reducible refine' r_isi_ni ?_)
  | (with_reducible refine' r_isi_nt ?_)
  | (with_reducible refine' r_isi_bb ?_)
  | (with_reducible refine' r_isi_bi ?_)
  | (with_reducible refine' r_isi_ss ?_)
  | (with_reducible refine' r_isi_si ?_)
  | (with_reducible refine' r_isi_st ?_)
  | (with_reducible refine' r_brk ?_)
  | (with_reducible refine' r_cont ?_)
  | (with_reducible refine' i_T ?_)
  | (with_reducible refine' i_F ?_)
  | (with_reducible refine' i_NT ?_)
  | (with_reducible refine' i_NF ?_)
  | fail)
/-! sides -/
local macro_rules | `(tactic| walk_at "mul") => `(tactic| first
  | exact mul_r (by decide) (by decide)
  | exact mul_l (by decide) (by decide)
  | exact mul_r (by omega) (by omega)
  | exact mul_l (by omega) (by omega)
  | exact mul_b (n := 256) (m := 256) (by omega) (by omega)
  | fail)
local macro_rules | `(tactic| walk_at "div") => `(tactic| first
  | exact div_b (n := 64) (by decide) (by decide)
  | exact div_b (n := 64) (by omega) (by omega)
  | exact div_b (n := 256) (by omega) (by omega)
  | fail)
local macro_rules | `(tactic| walk_at "ix") => `(tactic| first
  | rfl
  | assumption
  | fail)
/-- what a tuple, a list at an address is: by what is known, the heaps between going on -/
local macro_rules | `(tactic| walk_at "kp") => `(tactic| first
  | assumption
  | exact Keep.of_same (by assumption)
  | exact Keep.refl _
  | (refine' Keep.trans ?hk1 ?hk2; (case hk2 => first | assumption | exact Keep.of_same (by assumption)); (case hk1 => walk_at "kp"))
  | fail)
local macro_rules | `(tactic| walk_at "sm") => `(tactic| first
  | assumption
  | exact Same.refl _
  | (refine' Same.trans ?hk1 ?hk2; (case hk2 => assumption); (case hk1 => walk_at "sm"))
  | fail)
local macro_rules | `(tactic| walk_at "lk") => `(tactic| first
  | assumption
  | (refine' same_app ?hk1 ?hk2; (case hk1 => assumption); (case hk2 => walk_at "lk"))
  | (refine' Keep.app ?hk1 ?hk2 ?hk3; (case hk1 => assumption); (case hk2 => walk_at "lk"); (case hk3 => walk_at "ne"))
  | fail)
local macro_rules | `(tactic| walk_at "sqt") => `(tactic| first
  | assumption
  | (refine' SqT.of ?hk1; (case hk1 => walk_at "lk"))
  | walk_at "st"
  | fail)
local macro_rules | `(tactic| walk_at "sql") => `(tactic| first
  | assumption
  | (refine' SqL.of ?hk1; (case hk1 => walk_at "lk"))
  | (refine' Same.seq ?hk1 ?hk2; (case hk1 => assumption); (case hk2 => walk_at "sql"))
  | (refine' scr_sql ?hk1 ?hk2; (case hk1 => assumption); (case hk2 => walk_at "te"))
  | fail)
local macro_rules | `(tactic| walk_at "i") => `(tactic| first
  | ((with_reducible refine' r_ix01 ?hva ?_); (case hva => walk_at "sql"); intro _ _)
  | ((with_reducible refine' r_gtup ?hva ?hvb ?_); (case hva => walk_at "sqt"); (case hvb => exact rfl))
  | ((with_reducible refine' r_glst ?hva ?hvb ?_); (case hva => walk_at "sql"); (case hvb => exact rfl))
  | ((with_reducible refine' r_new ?hvv ?_); (case hvv => exact sz_lit rfl); intro _ _ _ _ _)
  | ((with_reducible refine' r_I ?hvv ?_); (case hvv => first | (with_reducible show IntMulOk _ _; walk_at "mul") | (with_reducible show CDivW _ _; walk_at "div") | (with_reducible show (0 : Int) < _; first | omega | exact two_pos _) | decide))
  | ((with_reducible refine' r_ixl ?hva ?hvb ?_); (case hva => walk_at "sql"); (case hvb => walk_at "ix"))
  | ((with_reducible refine' r_ixt ?hva ?hvb ?_); (case hva => walk_at "sqt"); (case hvb => walk_at "ix"))
  | ((with_reducible refine' r_len_l ?hva ?hvb ?_); (case hva => walk_at "sql"); (case hvb => first | (simp only [List.length_cons, List.length_nil, List.length_map, Nat.reduceAdd, Nat.zero_add]; exact rfl) | exact rfl))
  | ((with_reducible refine' r_len_t ?hva ?hvb ?_); (case hva => walk_at "sqt"); (case hvb => first | (simp only [List.length_cons, List.length_nil, List.length_map, Nat.reduceAdd, Nat.zero_add]; exact rfl) | exact rfl))
  | ((with_reducible refine' r_isi_tt ?hva ?_); (case hva => walk_at "sqt"))
  | ((with_reducible refine' r_isi_ti ?hva ?_); (case hva => walk_at "sqt"))
  | ((with_reducible refine' r_sll ?hva ?_); (case hva => walk_at "sql"); intro _ _ _ _ _)
  | ((with_reducible refine' r_revl ?hva ?_); (case hva => walk_at "sql"); intro _ _ _ _ _)
  | ((with_reducible refine' r_sla ?hva ?_); (case hva => walk_at "sqt"); intro _ _ _ _)
  | ((with_reducible refine' r_cat ?hva ?hvb ?hvc ?_); (case hva => walk_at "lk"); (case hvb => walk_at "lk"); (case hvc => first | exact sz_lit rfl | (refine sz_le ?_; omega)); intro _ _ _ _ _)
  | ((with_reducible refine' r_catA ?hva ?hvb ?hvc ?_); (case hva => walk_at "sqt"); (case hvb => walk_at "sqt"); (case hvc => first | exact sz_lit rfl | (refine sz_le ?_; omega)); intro _ _ _ _)
  | ((with_reducible refine' r_tuple_l ?hva ?_); (case hva => walk_at "sql"); intro _ _ _ _ _)
  | ((with_reducible refine' r_tuple_t ?hva ?_); (case hva => walk_at "sqt"))
  | ((with_reducible refine' r_list_l ?hva ?_); (case hva => walk_at "sql"); intro _ _ _ _ _)
  | ((with_reducible refine' r_list_t ?hva ?_); (case hva => walk_at "sqt"); intro _ _ _ _ _)
  | ((with_reducible refine' r_shl1 ?hva ?_); (case hva => omega))
  | ((with_reducible refine' r_shl2 ?hva ?_); (case hva => omega))
  | ((with_reducible refine' r_shl ?hva ?_); (case hva => omega))
  | (with_reducible refine' r_shr ?_)
  | ((with_reducible refine' i_pos ?hvv ?_); (case hvv => first | decide | omega))
  | ((with_reducible refine' i_neg ?hvv ?_); (case hvv => first | decide | omega))
  | ((with_reducible refine' i_npos ?hvv ?_); (case hvv => first | decide | omega))
  | ((with_reducible refine' i_nneg ?hvv ?_); (case hvv => first | decide | omega))
  | ((with_reducible refine' r_rng1 ?hva ?hvb ?_); (case hva => omega); (case hvb => omega))
  | ((with_reducible refine' r_rng2 ?hva ?hvb ?hvc ?hvd ?_); (case hva => omega); (case hvb => omega); (case hvc => omega); (case hvd => omega))
  | ((with_reducible refine' r_wl ?hva ?_); (case hva => walk_at "sql"))
  | ((with_reducible refine' r_wt ?hva ?_); (case hva => walk_at "sqt"))
  | fail)
local macro_rules | `(tactic| walk_at "call") => `(tactic| fail)
local macro_rules | `(tactic| walk_at "a") => `(tactic| repeat' (first | walk_at "s" | walk_at "i" | walk_at "call" | fail))

/-! steps of try -/
local macro_rules | `(tactic| walk_at "call") => `(tactic| first
  | (with_reducible refine' r_tryAs ?_)
  | (with_reducible refine' r_tryOnly ?_)
  | (with_reducible refine' r_methS ?_)
  | (with_reducible refine' r_makeS ?_)
  | fail)

def top (i : Nat) : Stmt := PySem.Challenge.pw_fourpoints_k24_windows_refused.main.body.getD i (.Pass ⟨0, 0, 0, 0⟩)
abbrev s_is_number : Stmt := top 11
abbrev s_times_of : Stmt := top 12
abbrev s_widened : Stmt := top 13
abbrev s_narrowed : Stmt := top 14
abbrev s_law_nth : Stmt := top 16
abbrev s_law_pot : Stmt := top 17
abbrev s_law_take : Stmt := top 18
abbrev s_law_window : Stmt := top 19
abbrev s_law_wrong : Stmt := top 20
abbrev s_law_is_another : Stmt := top 21
abbrev s_law_no_column : Stmt := top 22
abbrev s_law_no_half : Stmt := top 23
abbrev s_law : Stmt := top 24
theorem sc_is_number : FnScope ["thing"] ["thing"] (defScope s_is_number) := ⟨rfl, rfl, rfl, by decide +kernel, rfl, by decide +kernel, by decide +kernel⟩
theorem sc_times_of : FnScope ["window", "k", "begin", "wide", "many", "first"] ["window", "k"] (defScope s_times_of) := ⟨rfl, rfl, rfl, by decide +kernel, rfl, by decide +kernel, by decide +kernel⟩
theorem sc_widened : FnScope ["window", "begin", "wide", "many"] ["window"] (defScope s_widened) := ⟨rfl, rfl, rfl, by decide +kernel, rfl, by decide +kernel, by decide +kernel⟩
theorem sc_narrowed : FnScope ["window", "begin", "wide", "many"] ["window"] (defScope s_narrowed) := ⟨rfl, rfl, rfl, by decide +kernel, rfl, by decide +kernel, by decide +kernel⟩
theorem sc_law_nth : FnScope ["_law_script", "_law_k"] ["_law_script", "_law_k"] (defScope s_law_nth) := ⟨rfl, rfl, rfl, by decide +kernel, rfl, by decide +kernel, by decide +kernel⟩
theorem sc_law_pot : FnScope ["_law_cell"] ["_law_cell"] (defScope s_law_pot) := ⟨rfl, rfl, rfl, by decide +kernel, rfl, by decide +kernel, by decide +kernel⟩
theorem sc_law_take : FnScope ["_law_pot_here", "_law_many", "_law_digit"] ["_law_pot_here", "_law_many"] (defScope s_law_take) := ⟨rfl, rfl, rfl, by decide +kernel, rfl, by decide +kernel, by decide +kernel⟩
theorem sc_law_window : FnScope ["_law_pot_here", "_law_begin", "_law_wide"] ["_law_pot_here"] (defScope s_law_window) := ⟨rfl, rfl, rfl, by decide +kernel, rfl, by decide +kernel, by decide +kernel⟩
theorem sc_law_wrong : FnScope ["_law_pot_here", "_law_many", "_law_far", "_law_things"] ["_law_pot_here", "_law_many"] (defScope s_law_wrong) := ⟨rfl, rfl, rfl, by decide +kernel, rfl, by decide +kernel, by decide +kernel⟩
theorem sc_law_is_another : FnScope ["_law_e"] ["_law_e"] (defScope s_law_is_another) := ⟨rfl, rfl, rfl, by decide +kernel, rfl, by decide +kernel, by decide +kernel⟩
theorem sc_law_no_column : FnScope ["_law_window_here", "_law_k", "_law_e"] ["_law_window_here", "_law_k"] (defScope s_law_no_column) := ⟨rfl, rfl, rfl, by decide +kernel, rfl, by decide +kernel, by decide +kernel⟩
theorem sc_law_no_half : FnScope ["_law_window_here", "_law_e"] ["_law_window_here"] (defScope s_law_no_half) := ⟨rfl, rfl, rfl, by decide +kernel, rfl, by decide +kernel, by decide +kernel⟩
theorem sc_law : FnScope ["_law_script", "_law_place", "_law_pot_here", "_law_window_here", "_law_begin", "_law_wide", "_law_many", "_law_last", "_law_odd"] ["_law_script"] (defScope s_law) := ⟨rfl, rfl, rfl, by decide +kernel, rfl, by decide +kernel, by decide +kernel⟩
/-! script[k] or 0 -/
def sp_nth (K : PySem.W.Frag) : Sp := fun vs H Q _ => ∃ (a : Addr) (ns : List Int) (k : Nat), vs = [.ref a, .int k] ∧ SqL K H a (ns.map V.int) ∧ Q (.int (ns.getD k 0)) H
theorem getD_map_int {ns : List Int} {k : Nat} (h : k < ns.length) : (ns.map V.int)[k]? = some (V.int (ns.getD k 0)) := by
  rw [List.getElem?_map, List.getElem?_eq_getElem h]
  simp [List.getD, h]
section
variable {P : Program} {w : World} {K : PySem.W.Frag} {mg : Str → Option Value} {base : Heap}
theorem ok_law_nth (B : Blt mg) (D : Def K mg "_law_nth" s_law_nth ["_law_script", "_law_k"]) :
    Fn P w K mg base 1 "_law_nth" ["_law_script", "_law_k"] (sp_nth K) := by
  refine D.ok sc_law_nth (fun vs H Q E h => ?_) (fun f cdv A outer s H vs Q E hr h => ?_)
  · obtain ⟨a, ns, k, rfl, hS, q⟩ := h
    rfl
  · obtain ⟨a, ns, k, rfl, hS, q⟩ := h
    refine ⟨_, (pss_one (ps_ret (pe_ifExp (pt_cmpR op_lt (pv 1) (pe_callB (crK K c_len) rfl B.len (by decide +kernel) (pa_cons (pv 0) pa_nil)) (nomark _)) (pe_ix (ixK K ix_seq) (pv 0) (pv 1) (fun _ _ => rfl)) pe_int))), ?_⟩
    refine r_start (σ' := [some (.ref a), some (.int k)]) rfl ?_
    walk_at "a"
    refine i_cases (fun hk => ?_) (fun hk => ?_)
    · walk_at "a"
      exact r_ixl hS (at_of rfl (getD_map_int (by omega))) q
    · walk_at "a"
      have e0 : ns.getD k 0 = 0 := by
        have h1 : ns.length ≤ k := by omega
        simp [List.getD, h1]
      rw [e0] at q
      exact q
end
theorem use_nth {K : PySem.W.Frag} {H : Hp} {Q : VK} {E : XK} {a : Addr} {ns : List Int} {z : Int} (h : SqL K H a (ns.map V.int)) (h0 : 0 ≤ z) (q : Q (.int (ns.getD z.toNat 0)) H) : sp_nth K [.ref a, .int z] H Q E :=
  ⟨a, ns, z.toNat, by rw [Int.toNat_of_nonneg h0], h, q⟩
local macro_rules | `(tactic| walk_at "call") => `(tactic| ((with_reducible refine' use_nth ?hva ?hvb ?_); (case hva => walk_at "sql"); (case hvb => omega)))

/-! the pot: a list of two numbers -/
structure Pot (H : Hp) (p : Addr) : Prop where
  ex : ∃ a b : Int, H p = some (.lst [.int a, .int b]) ∧ 0 ≤ a ∧ 0 ≤ b ∧ b < 4294967296
theorem Pot.keep {H H' : Hp} {p : Addr} {F : Addr → Prop} (h : Pot H p) (k : Keep F H H') (n : ¬ F p) : Pot H' p := by
  obtain ⟨a, b, e, r⟩ := h.ex
  exact ⟨a, b, k p _ e n, r⟩
theorem Pot.same {H H' : Hp} {p : Addr} (h : Pot H p) (k : Same H H') : Pot H' p := by
  obtain ⟨a, b, e, r⟩ := h.ex
  exact ⟨a, b, k p _ e, r⟩
theorem Pot.text {H H' : Hp} {p : Addr} (h : Pot H p) (k : Keep (At p) H H') : TExt H H' := by
  obtain ⟨a, b, e, r⟩ := h.ex
  exact TExt.lst k e
theorem Pot.ne_new {H : Hp} {p q : Addr} (h : Pot H p) (hn : H q = none) : q ≠ p := by
  obtain ⟨a, b, e, r⟩ := h.ex
  exact fun z => by rw [z, e] at hn; cases hn
def sp_pot (K : PySem.W.Frag) : Sp := fun vs H Q _ => ∃ c : Int, vs = [.int c] ∧ ∀ (p : Addr) (H' : Hp), H p = none → Same H H' → Pot H' p → Q (.ref p) H'
def sp_take (K : PySem.W.Frag) : Sp := fun vs H Q _ => ∃ (p : Addr) (n : Int), vs = [.ref p, .int n] ∧ Pot H p ∧ 0 < n ∧ n ≤ 1000000000000000000000000000000000000000000000000000000000000000000000000000 ∧
  ∀ (r : Int) (H' : Hp), Keep (At p) H H' → Pot H' p → 0 ≤ r → r < n → Q (.int r) H'
section
variable {P : Program} {w : World} {K : PySem.W.Frag} {mg : Str → Option Value} {base : Heap}
theorem ok_law_pot (B : Blt mg) (D : Def K mg "_law_pot" s_law_pot ["_law_cell"]) :
    Fn P w K mg base 1 "_law_pot" ["_law_cell"] (sp_pot K) := by
  refine D.ok sc_law_pot (fun vs H Q E h => ?_) (fun f cdv A outer s H vs Q E hr h => ?_)
  · obtain ⟨c, rfl, q⟩ := h
    rfl
  · obtain ⟨c, rfl, q⟩ := h
    refine ⟨_, (pss_one (ps_ret (pe_lst (pa_cons (pe_op op_mulY (pv 0) (pe_callTy c_int1 rfl B.int (by decide +kernel) (pa_cons (pe_cmpR op_ge (pv 0) (pe_powC (z := 1000000000000000000) (by decide +kernel) (by decide +kernel)) (nomark _)) pa_nil))) (pa_cons (pe_op op_mod (pe_op op_add (pe_op op_mulY (pv 0) pe_int) pe_int) pe_int) pa_nil))))), ?_⟩
    refine r_start (σ' := [some (.int c)]) rfl ?_
    walk_at "a"
    rename_i p H' hn h1 h2
    refine q p H' hn h1 ⟨_, _, h2, ?_, ?_, ?_⟩
    · split
      · rename_i h3
        have h4 := of_decide_eq_true h3
        omega
      · omega
    · omega
    · omega
end
section
variable {P : Program} {w : World} {K : PySem.W.Frag} {mg : Str → Option Value} {base : Heap}
theorem ok_law_take (B : Blt mg) (D : Def K mg "_law_take" s_law_take ["_law_pot_here", "_law_many"]) :
    Fn P w K mg base 1 "_law_take" ["_law_pot_here", "_law_many"] (sp_take K) := by
  refine D.ok sc_law_take (fun vs H Q E h => ?_) (fun f cdv A outer s H vs Q E hr h => ?_)
  · obtain ⟨p, n, rfl, hp, hn, hb, q⟩ := h
    rfl
  · obtain ⟨p, n, rfl, hp, hn, hb, q⟩ := h
    refine ⟨_, (pss_cons (ps_if (pt_cmpR op_gt (pe_ix (ixK K ix_seq) (pv 0) pe_int (fun _ _ => rfl)) pe_int (nomark _))
      (pss_cons (ps_set (i := 2) sc_law_take.nd rfl (Or.inl rfl) (pe_op op_mod (pe_ix (ixK K ix_seq) (pv 0) pe_int (fun _ _ => rfl)) (pv 1)))
      (pss_cons (ps_asg (pe_op op_fdivW (pe_ix (ixK K ix_seq) (pv 0) pe_int (fun _ _ => rfl)) (pv 1)) (pg_sub (pv 0) pe_int set_list))
      (pss_one (ps_ret (pv 2)))))
      pss_nil)
      (pss_cons (ps_asg (pe_op op_mod (pe_op op_add (pe_op op_mulY (pe_ix (ixK K ix_seq) (pv 0) pe_int (fun _ _ => rfl)) pe_int) pe_int) pe_int) (pg_sub (pv 0) pe_int set_list))
      (pss_one (ps_ret (pe_op op_mod (pe_op op_fdivW (pe_op op_mod (pe_op op_mulY (pe_ix (ixK K ix_seq) (pv 0) pe_int (fun _ _ => rfl)) (pe_ix (ixK K ix_seq) (pv 0) pe_int (fun _ _ => rfl))) pe_int) pe_int) (pv 1)))))), ?_⟩
    refine r_start (σ' := [some (.ref p), some (.int n), none]) rfl ?_
    obtain ⟨a, b, hp, ha, hb0, hb1⟩ := hp.ex
    walk_at "a"
    refine i_cases (fun hk => ?_) (fun hk => ?_)
    · walk_at "a"
      refine r_setl hp rfl fun H' h1 h2 => ?_
      walk_at "a"
      exact q _ H' h1 ⟨_, _, h2, Int.ediv_nonneg ha (by omega), hb0, hb1⟩ (Int.emod_nonneg _ (by omega)) (Int.emod_lt_of_pos _ hn)
    · walk_at "a"
      refine r_setl hp rfl fun H' h1 e2 => ?_
      have e2 : H' p = some (.lst [.int a, .int ((b * 39373 + 3001) % 2147483587)]) := e2
      generalize hc : (b * 39373 + 3001) % 2147483587 = c at e2
      have c0 : 0 ≤ c := by omega
      have c1 : c < 4294967296 := by omega
      clear hc
      walk_at "a"
      exact q _ H' h1 ⟨_, _, e2, ha, c0, c1⟩ (Int.emod_nonneg _ (by omega)) (Int.emod_lt_of_pos _ hn)
end
theorem use_pot {K : PySem.W.Frag} {H : Hp} {Q : VK} {E : XK} {c : Int} (q : ∀ (p : Addr) (H' : Hp), H p = none → Same H H' → Pot H' p → Q (.ref p) H') : sp_pot K [.int c] H Q E := ⟨c, rfl, q⟩
theorem use_take {K : PySem.W.Frag} {H : Hp} {Q : VK} {E : XK} {p : Addr} {n : Int} (h : Pot H p) (h0 : 0 < n) (h1 : n ≤ 1000000000000000000000000000000000000000000000000000000000000000000000000000) (q : ∀ (r : Int) (H' : Hp), Keep (At p) H H' → Pot H' p → 0 ≤ r → r < n → Q (.int r) H') : sp_take K [.ref p, .int n] H Q E :=
  ⟨p, n, rfl, h, h0, h1, q⟩
local macro_rules | `(tactic| walk_at "call") => `(tactic| ((with_reducible refine' use_take ?hva ?hvb ?hvc ?_); (case hva => walk_at "pot"); (case hvb => omega); (case hvc => omega); intro _ _ _ _ _ _))
local macro_rules | `(tactic| walk_at "call") => `(tactic| ((with_reducible refine' use_pot ?_); intro _ _ _ _ _))
local macro_rules | `(tactic| walk_at "pot") => `(tactic| first
  | assumption
  | (refine' Pot.same ?hk1 ?hk2; (case hk2 => assumption); (case hk1 => walk_at "pot"))
  | (refine' Pot.keep ?hk1 ?hk2 ?hk3; (case hk2 => assumption); (case hk1 => walk_at "pot"); (case hk3 => walk_at "ne"))
  | fail)
local macro_rules | `(tactic| walk_at "te") => `(tactic| first
  | assumption
  | exact TExt.refl _
  | exact TExt.of_same (by assumption)
  | (refine' Pot.text ?hk1 ?hk2; (case hk2 => assumption); (case hk1 => assumption))
  | (refine' TExt.trans ?hk1 ?hk2; (case hk2 => first | exact TExt.of_same (by assumption) | (refine' Pot.text ?hk3 ?hk4; (case hk4 => assumption); (case hk3 => walk_at "pot"))); (case hk1 => walk_at "te"))
  | fail)
/-- a tuple through the heaps -/
local macro_rules | `(tactic| walk_at "st") => `(tactic| first
  | assumption
  | exact SqT.of (by assumption)
  | (refine' SqT.text ?hk1 ?hk2; (case hk1 => first | exact TExt.of_same (by assumption) | (refine' Pot.text ?hk3 ?hk4; (case hk4 => assumption); (case hk3 => walk_at "pot"))); (case hk2 => walk_at "st"))
  | fail)
local macro_rules | `(tactic| walk_at "ne") => `(tactic| first
  | assumption
  | exact Ne.symm (by assumption)
  | (refine' Pot.ne_new ?hk1 ?hk2; (case hk2 => assumption); (case hk1 => walk_at "pot"))
  | fail)
/-! the law's promise -/
def sp_law (K : PySem.W.Frag) : Sp := fun vs H Q _ => ∃ a ns, vs = [.ref a] ∧ Scr K H a ns ∧ ns.length ≤ 63 ∧ ∀ H', Q (.bl true) H'
theorem sp_law_top {K : PySem.W.Frag} {H : Hp} {a : Addr} {ns : List Int} {E : XK} (hl : ns.length ≤ 63) (hb : ∀ z ∈ ns, Builtin.Int.intBits z ≤ 1048576) (hO : Only H) (hS : SqL K H a (ns.map V.int)) : sp_law K [.ref a] H (fun v _ => v = .bl true) E :=
  ⟨a, ns, rfl, Scr.of hO hS, hl, fun _ => rfl⟩
/-- a drawn number -/
def sp_drawn (lo hi : Int) (K : PySem.W.Frag) : Sp := fun vs H Q _ => ∃ p, vs = [.ref p] ∧ Pot H p ∧ ∀ (z : Int) (H' : Hp), Keep (At p) H H' → Pot H' p → lo ≤ z → z ≤ hi → Q (.int z) H'
theorem use_drawn {lo hi : Int} {K : PySem.W.Frag} {H : Hp} {Q : VK} {E : XK} {p : Addr} (h : Pot H p) (q : ∀ (z : Int) (H' : Hp), Keep (At p) H H' → Pot H' p → lo ≤ z → z ≤ hi → Q (.int z) H') : sp_drawn lo hi K [.ref p] H Q E := ⟨p, rfl, h, q⟩
local macro_rules | `(tactic| walk_at "call") => `(tactic| ((with_reducible refine' use_drawn ?hva ?_); (case hva => walk_at "pot"); intro _ _ _ _ _ _))
/-- a comprehension over range(n) that draws from the pot -/
theorem lc_pot {σ : L2.St} {H : Hp} {Q : VK} {n : Nat} {lo : Int} {p : Addr} {te : TE} {j : Nat} (hp : Pot H p) (hn : n ≤ 16777216) (R : Hp → Nat → V → Prop) (hR : ∀ H H' i y, TExt H H' → R H i y → R H' i y)
    (hs : ∀ (i : Nat) H2 (S : VK), i < n → Keep (At p) H H2 → Pot H2 p → (∀ y H3, Keep (At p) H2 H3 → Pot H3 p → R H3 i y → S y H3) → te ((wipe σ [j]).set j (some (.int (lo + i)))) H2 S)
    (q : ∀ D H' ys, H D = none → Keep (At p) H H' → Pot H' p → H' D = some (.lst ys) → Paired (R H') (List.range n) ys → Q (.ref D) H') : LcW (Itr lo n) (gName j) tYes te [j] σ H Q :=
  lc_rngK (fun H => Pot H p) hp (fun D hD => hp.ne_new hD) (fun H1 H2 h e => by obtain ⟨a, b, z, r⟩ := h.ex; exact ⟨a, b, by rw [e]; exact z, r⟩) (fun H1 H2 h k => h.text k) hn R hR hs q

/-! whether a thing is a whole number -/
def numV : V → Bool
  | .int _ => true
  | _ => false
theorem numV_dp {K : PySem.W.Frag} {H : Hp} {v : V} {d : PyData} (h : Dp K H v d) : (isT "int" d && !isT "bool" d) = numV v := by
  cases h <;> simp [isT, isK, tyN, numV]
def sp_is_number (K : PySem.W.Frag) : Sp := fun vs H Q _ => ∃ v d, vs = [v] ∧ Dp K H v d ∧ Q (.bl (numV v)) H
section
variable {P : Program} {w : World} {K : PySem.W.Frag} {mg : Str → Option Value} {base : Heap}
theorem ok_is_number (B : Blt mg) (D : Def K mg "is_number" s_is_number ["thing"]) :
    Fn P w K mg base 1 "is_number" ["thing"] (sp_is_number K) := by
  refine D.ok sc_is_number (fun vs H Q E h => ?_) (fun f cdv A outer s H vs Q E hr h => ?_)
  · obtain ⟨v, d, rfl, hd, q⟩ := h
    rfl
  · obtain ⟨v, d, rfl, hd, q⟩ := h
    refine ⟨_, (pss_one (ps_ret (pe_and (pe_callB (crK K call_isi) rfl B.isinstance (by decide +kernel) (pa_cons (pv 0) (pa_cons (pe_bltn (v := .ty "int") rfl B.int (by decide +kernel) rfl) pa_nil))) (pe_one (pe_not (pe_callB (crK K call_isi) rfl B.isinstance (by decide +kernel) (pa_cons (pv 0) (pa_cons (pe_bltn (v := .ty "bool") rfl B.bool (by decide +kernel) rfl) pa_nil)))))))), ?_⟩
    refine r_start (σ' := [some (v)]) rfl ?_
    rw [← numV_dp hd] at q
    walk_at "a"
    refine r_isi hd (by decide) ?_
    walk_at "a"
    cases h1 : isT "int" d with
    | false =>
      rw [h1] at q
      walk_at "a"
      exact q
    | true =>
      rw [h1] at q
      walk_at "a"
      refine r_isi hd (by decide) ?_
      walk_at "a"
      exact q
end
theorem use_is_number {K : PySem.W.Frag} {H : Hp} {Q : VK} {E : XK} {v : V} {d : PyData} (h : Dp K H v d) (q : Q (.bl (numV v)) H) : sp_is_number K [v] H Q E := ⟨v, d, rfl, h, q⟩
theorem use_is_number_i {K : PySem.W.Frag} {H : Hp} {Q : VK} {E : XK} {i : Int} (q : Q (.bl true) H) : sp_is_number K [.int i] H Q E := ⟨_, .int i, rfl, .int i, q⟩
local macro_rules | `(tactic| walk_at "call") => `(tactic| ((with_reducible refine' use_is_number_i ?_)))

/-! ### times_of -/
def sp_times_of (K : PySem.W.Frag) (C : Addr) : Sp := fun vs H Q E => ∃ (a : Addr) (b w m : Int) (v : V) (d : PyData), vs = [.ref a, v] ∧ SqT K H a [.int b, .int w, .int m] ∧ Dp K H v d ∧ -1000000000000000000000000000000000000000000000000000000000000000000000000000 ≤ w ∧ w ≤ 1000000000000000000000000000000000000000000000000000000000000000000000000000 ∧
  m ≤ 1000000000000000000000000000000000000000000000000000000000000000000000000000 ∧
  (∀ k, v = .int k → 0 ≤ k → k < m → ∀ (p : Addr) (H' : Hp), Same H H' → H' p = some (.tup [.int (b + k * w), .int (b + k * w + w)]) → Q (.ref p) H') ∧
  ((∀ k, v = .int k → ¬ (0 ≤ k ∧ k < m)) → E (.ref C) none H)
section
variable {P : Program} {w : World} {K : PySem.W.Frag} {mg : Str → Option Value} {base : Heap}
theorem ok_times_of (B : Blt mg) (D : Def K mg "times_of" s_times_of ["window", "k"]) {E_NoColumn : Addr} (X_NoColumn : Exc K mg "NoColumn" E_NoColumn) (G_is_number : Fn P w K mg base 1 "is_number" ["thing"] (sp_is_number K)) :
    Fn P w K mg base 2 "times_of" ["window", "k"] (sp_times_of K E_NoColumn) := by
  refine D.okX sc_times_of (fun vs H Q E h => ?_) (fun f cdv A outer s H vs Q E hr h => ?_)
  · obtain ⟨a, b, w', m, v, d, rfl, hw, hd, h0, h1, h2, q, e⟩ := h
    rfl
  · obtain ⟨a, b, w', m, v, d, rfl, hw, hd, h0, h1, h2, q, e⟩ := h
    refine ⟨_, (pss_cons (ps_asg (pv 0) (pgK_tup K (n := 3) rfl (pgs_cons (pg_name (i := 2) sc_times_of.nd rfl (Or.inl rfl)) (pgs_cons (pg_name (i := 3) sc_times_of.nd rfl (Or.inl rfl)) (pgs_cons (pg_name (i := 4) sc_times_of.nd rfl (Or.inl rfl)) pgs_nil)))))
      (pss_cons (ps_if (PW.pt (pw_or (pt_not (pt_val (pe_fn G_is_number hr (pa_cons (pv 1) pa_nil)))) (pw_or (pt_cmpR op_lt (pv 1) pe_int (nomark _)) (pw_or1 (pt_cmpR op_ge (pv 1) (pv 4) (nomark _))))))
      (pss_one (ps_rs X_NoColumn (takes_of rfl rfl rfl rfl)))
      pss_nil)
      (pss_cons (ps_set (i := 5) sc_times_of.nd rfl (Or.inl rfl) (pe_op op_add (pv 2) (pe_op op_mulY (pv 1) (pv 3))))
      (pss_one (ps_ret (pe_tup (pa_cons (pv 5) (pa_cons (pe_op op_add (pv 5) (pv 3)) pa_nil)))))))), ?_⟩
    refine r_start (σ' := [some (.ref a), some (v), none, none, none, none]) rfl ?_
    have hn : numV v = true ∨ numV v = false := by cases numV v <;> simp
    walk_at "a"
    refine use_is_number hd ?_
    rcases hn with hn | hn
    · rw [hn]
      obtain ⟨k, rfl⟩ : ∃ k, v = .int k := by cases v <;> simp [numV] at hn; exact ⟨_, rfl⟩
      walk_at "a"
      refine i_cases (fun h3 => ?_) (fun h3 => ?_)
      · walk_at "a"
        exact e (fun j hj hk => by cases hj; omega)
      · walk_at "a"
        refine i_cases (fun h4 => ?_) (fun h4 => ?_)
        · walk_at "a"
          exact e (fun j hj hk => by cases hj; omega)
        · walk_at "a"
          rename_i p H' hn hs hp
          exact q k rfl (by omega) (by omega) p H' hs hp
    · rw [hn]
      walk_at "a"
      exact e (fun j hj hk => by subst hj; simp [numV] at hn)
end
theorem use_times_of {K : PySem.W.Frag} {C : Addr} {H : Hp} {Q : VK} {E : XK} {a : Addr} {b w m k : Int} (hw : SqT K H a [.int b, .int w, .int m]) (h0 : -1000000000000000000000000000000000000000000000000000000000000000000000000000 ≤ w) (h1 : w ≤ 1000000000000000000000000000000000000000000000000000000000000000000000000000)
    (h2 : m ≤ 1000000000000000000000000000000000000000000000000000000000000000000000000000) (h3 : 0 ≤ k) (h4 : k < m)
    (q : ∀ (p : Addr) (H' : Hp), Same H H' → H' p = some (.tup [.int (b + k * w), .int (b + k * w + w)]) → Q (.ref p) H') : sp_times_of K C [.ref a, .int k] H Q E :=
  ⟨a, b, w, m, _, _, rfl, hw, .int k, h0, h1, h2, fun j hj _ _ => by cases hj; exact q, fun n => absurd ⟨h3, h4⟩ (n k rfl)⟩
local macro_rules | `(tactic| walk_at "call") => `(tactic| ((with_reducible refine' use_times_of ?hva ?hvb ?hvc ?hvd ?hve ?hvf ?_); (case hva => walk_at "sqt"); (case hvb => omega); (case hvc => omega); (case hvd => omega); (case hve => omega); (case hvf => omega); intro _ _ _ _))

def sp_widened (K : PySem.W.Frag) : Sp := fun vs H Q _ => ∃ (a : Addr) (b w m : Int), vs = [.ref a] ∧ SqT K H a [.int b, .int w, .int m] ∧ ∀ (p : Addr) (H' : Hp), Same H H' → H' p = some (.tup [.int b, .int (2 * w), .int m]) → Q (.ref p) H'
def sp_narrowed (K : PySem.W.Frag) (C : Addr) : Sp := fun vs H Q E => ∃ (a : Addr) (b w m : Int), vs = [.ref a] ∧ SqT K H a [.int b, .int w, .int m] ∧
  (w % 2 = 0 → ∀ (p : Addr) (H' : Hp), Same H H' → H' p = some (.tup [.int b, .int (w / 2), .int m]) → Q (.ref p) H') ∧ (¬ w % 2 = 0 → E (.ref C) none H)
section
variable {P : Program} {w : World} {K : PySem.W.Frag} {mg : Str → Option Value} {base : Heap}
theorem ok_widened (B : Blt mg) (D : Def K mg "widened" s_widened ["window"]) :
    Fn P w K mg base 1 "widened" ["window"] (sp_widened K) := by
  refine D.ok sc_widened (fun vs H Q E h => ?_) (fun f cdv A outer s H vs Q E hr h => ?_)
  · obtain ⟨a, b, w', m, rfl, hw, q⟩ := h
    rfl
  · obtain ⟨a, b, w', m, rfl, hw, q⟩ := h
    refine ⟨_, (pss_cons (ps_asg (pv 0) (pgK_tup K (n := 3) rfl (pgs_cons (pg_name (i := 1) sc_widened.nd rfl (Or.inl rfl)) (pgs_cons (pg_name (i := 2) sc_widened.nd rfl (Or.inl rfl)) (pgs_cons (pg_name (i := 3) sc_widened.nd rfl (Or.inl rfl)) pgs_nil)))))
      (pss_one (ps_ret (pe_tup (pa_cons (pv 1) (pa_cons (pe_op op_mulY pe_int (pv 2)) (pa_cons (pv 3) pa_nil))))))), ?_⟩
    refine r_start (σ' := [some (.ref a), none, none, none]) rfl ?_
    walk_at "a"
    exact q _ _ (by assumption) (by assumption)
end
section
variable {P : Program} {w : World} {K : PySem.W.Frag} {mg : Str → Option Value} {base : Heap}
theorem ok_narrowed (B : Blt mg) (D : Def K mg "narrowed" s_narrowed ["window"]) {E_NotHalf : Addr} (X_NotHalf : Exc K mg "NotHalf" E_NotHalf) :
    Fn P w K mg base 1 "narrowed" ["window"] (sp_narrowed K E_NotHalf) := by
  refine D.okX sc_narrowed (fun vs H Q E h => ?_) (fun f cdv A outer s H vs Q E hr h => ?_)
  · obtain ⟨a, b, w', m, rfl, hw, q, e⟩ := h
    rfl
  · obtain ⟨a, b, w', m, rfl, hw, q, e⟩ := h
    refine ⟨_, (pss_cons (ps_asg (pv 0) (pgK_tup K (n := 3) rfl (pgs_cons (pg_name (i := 1) sc_narrowed.nd rfl (Or.inl rfl)) (pgs_cons (pg_name (i := 2) sc_narrowed.nd rfl (Or.inl rfl)) (pgs_cons (pg_name (i := 3) sc_narrowed.nd rfl (Or.inl rfl)) pgs_nil)))))
      (pss_cons (ps_if (pt_cmpR (opK K (o_ne hr.units)) (pe_op op_mod (pv 2) pe_int) pe_int (nomark _))
      (pss_one (ps_rs X_NotHalf (takes_of rfl rfl rfl rfl)))
      pss_nil)
      (pss_one (ps_ret (pe_tup (pa_cons (pv 1) (pa_cons (pe_op op_fdivW (pv 2) pe_int) (pa_cons (pv 3) pa_nil)))))))), ?_⟩
    refine r_start (σ' := [some (.ref a), none, none, none]) rfl ?_
    walk_at "a"
    refine i_ncases (fun h => ?_) (fun h => ?_)
    · walk_at "a"
      exact e h
    · walk_at "a"
      exact q h _ _ (by assumption) (by assumption)
end
theorem use_widened {K : PySem.W.Frag} {H : Hp} {Q : VK} {E : XK} {a : Addr} {b w m : Int} (hw : SqT K H a [.int b, .int w, .int m]) (q : ∀ (p : Addr) (H' : Hp), Same H H' → H' p = some (.tup [.int b, .int (2 * w), .int m]) → Q (.ref p) H') : sp_widened K [.ref a] H Q E := ⟨a, b, w, m, rfl, hw, q⟩
theorem use_narrowed {K : PySem.W.Frag} {C : Addr} {H : Hp} {Q : VK} {E : XK} {a : Addr} {b w m : Int} (hw : SqT K H a [.int b, .int w, .int m]) (h : w % 2 = 0) (q : ∀ (p : Addr) (H' : Hp), Same H H' → H' p = some (.tup [.int b, .int (w / 2), .int m]) → Q (.ref p) H') : sp_narrowed K C [.ref a] H Q E := ⟨a, b, w, m, rfl, hw, fun _ => q, fun n => absurd h n⟩
abbrev N59 (z : Int) : Prop := -100000000000000000000000000000000000000000000000000000000000 ≤ z ∧ z ≤ 100000000000000000000000000000000000000000000000000000000000
abbrev Wn (b w m : Int) : Prop := N59 b ∧ (1 ≤ w ∧ w ≤ 100000000000000000000000000000000000000000000000000000000000) ∧ 1 ≤ m ∧ m ≤ 200
def sp_window (K : PySem.W.Frag) : Sp := fun vs H Q _ => ∃ p, vs = [.ref p] ∧ Pot H p ∧ ∀ (a : Addr) (H' : Hp) (b w m : Int), Keep (At p) H H' → Pot H' p → H' a = some (.tup [.int b, .int w, .int m]) → Wn b w m → Q (.ref a) H'
section
variable {P : Program} {w : World} {K : PySem.W.Frag} {mg : Str → Option Value} {base : Heap}
theorem ok_law_window (B : Blt mg) (D : Def K mg "_law_window" s_law_window ["_law_pot_here"]) (G_law_take : Fn P w K mg base 1 "_law_take" ["_law_pot_here", "_law_many"] (sp_take K)) :
    Fn P w K mg base 2 "_law_window" ["_law_pot_here"] (sp_window K) := by
  refine D.ok sc_law_window (fun vs H Q E h => ?_) (fun f cdv A outer s H vs Q E hr h => ?_)
  · obtain ⟨p, rfl, hp, q⟩ := h
    rfl
  · obtain ⟨p, rfl, hp, q⟩ := h
    refine ⟨_, (pss_cons (ps_set (i := 1) sc_law_window.nd rfl (Or.inl rfl) (pe_ix (ixK K ix_seq) (pe_lst (pa_cons (pe_op op_sub (pe_fn G_law_take hr (pa_cons (pv 0) (pa_cons pe_int pa_nil))) pe_int) (pa_cons (pe_op op_sub (pe_fn G_law_take hr (pa_cons (pv 0) (pa_cons (pe_op op_mulY pe_int (pe_powC (z := 10000000000000000000000000000000000000000000000000000000000) (by decide +kernel) (by decide +kernel))) pa_nil))) (pe_powC (z := 10000000000000000000000000000000000000000000000000000000000) (by decide +kernel) (by decide +kernel))) pa_nil))) (pe_callTy c_int1 rfl B.int (by decide +kernel) (pa_cons (pe_cmpR (opK K (o_eq hr.units)) (pe_fn G_law_take hr (pa_cons (pv 0) (pa_cons pe_int pa_nil))) pe_int (nomark _)) pa_nil)) (fun _ _ => rfl)))
      (pss_cons (ps_set (i := 2) sc_law_window.nd rfl (Or.inl rfl) (pe_ix (ixK K ix_seq) (pe_lst (pa_cons (pe_op op_add pe_int (pe_fn G_law_take hr (pa_cons (pv 0) (pa_cons pe_int pa_nil)))) (pa_cons (pe_op op_add pe_int (pe_fn G_law_take hr (pa_cons (pv 0) (pa_cons (pe_powC (z := 100000000000000000000000000000000000000000000000000000000) (by decide +kernel) (by decide +kernel)) pa_nil)))) pa_nil))) (pe_callTy c_int1 rfl B.int (by decide +kernel) (pa_cons (pe_cmpR (opK K (o_eq hr.units)) (pe_fn G_law_take hr (pa_cons (pv 0) (pa_cons pe_int pa_nil))) pe_int (nomark _)) pa_nil)) (fun _ _ => rfl)))
      (pss_one (ps_ret (pe_tup (pa_cons (pv 1) (pa_cons (pv 2) (pa_cons (pe_op op_add pe_int (pe_fn G_law_take hr (pa_cons (pv 0) (pa_cons pe_int pa_nil)))) pa_nil)))))))), ?_⟩
    refine r_start (σ' := [some (.ref p), none, none]) rfl ?_
    walk_at "a"
    exact q _ _ _ _ _ (by walk_at "kp") (by walk_at "pot") (by assumption) ⟨⟨by omega, by omega⟩, ⟨by omega, by omega⟩, by omega, by omega⟩
end
theorem use_window {K : PySem.W.Frag} {H : Hp} {Q : VK} {E : XK} {p : Addr} (hp : Pot H p) (q : ∀ (a : Addr) (H' : Hp) (b w m : Int), Keep (At p) H H' → Pot H' p → H' a = some (.tup [.int b, .int w, .int m]) → Wn b w m → Q (.ref a) H') : sp_window K [.ref p] H Q E := ⟨p, rfl, hp, q⟩
def sp_wrong (K : PySem.W.Frag) : Sp := fun vs H Q _ => ∃ (p : Addr) (m : Int), vs = [.ref p, .int m] ∧ Pot H p ∧ (1 ≤ m ∧ m ≤ 200) ∧ ∀ (x : V) (d : PyData) (H' : Hp), Keep (At p) H H' → Pot H' p → Dp K H' x d → (∀ k, x = .int k → ¬ (0 ≤ k ∧ k < m)) → Q x H'
section
variable {P : Program} {w : World} {K : PySem.W.Frag} {mg : Str → Option Value} {base : Heap}
theorem ok_law_wrong (B : Blt mg) (D : Def K mg "_law_wrong" s_law_wrong ["_law_pot_here", "_law_many"]) (G_law_take : Fn P w K mg base 1 "_law_take" ["_law_pot_here", "_law_many"] (sp_take K)) :
    Fn P w K mg base 2 "_law_wrong" ["_law_pot_here", "_law_many"] (sp_wrong K) := by
  refine D.ok sc_law_wrong (fun vs H Q E h => ?_) (fun f cdv A outer s H vs Q E hr h => ?_)
  · obtain ⟨p, m, rfl, hp, ⟨m0, m1⟩, q⟩ := h
    rfl
  · obtain ⟨p, m, rfl, hp, ⟨m0, m1⟩, q⟩ := h
    refine ⟨_, (pss_cons (ps_set (i := 2) sc_law_wrong.nd rfl (Or.inl rfl) (pe_fn G_law_take hr (pa_cons (pv 0) (pa_cons (pe_powC (z := 100000000000000000000000000000000000000000000000000000000000) (by decide +kernel) (by decide +kernel)) pa_nil))))
      (pss_cons (ps_set (i := 3) sc_law_wrong.nd rfl (Or.inl rfl) (pe_lst (pa_cons (pe_un un_neg pe_int) (pa_cons (pv 1) (pa_cons (pe_op op_add (pe_op op_add (pv 1) pe_int) (pv 2)) (pa_cons (pe_op op_sub (pe_un un_neg pe_int) (pv 2)) (pa_cons pe_non (pa_cons pe_str (pa_cons pe_str (pa_cons pe_str (pa_cons (pe_tup pa_nil) (pa_cons (pe_tup (pa_cons pe_int pa_nil)) (pa_cons (pe_lst pa_nil) (pa_cons (pe_lst (pa_cons pe_int pa_nil)) (pa_cons (pe_tup (pa_cons pe_int (pa_cons pe_int (pa_cons pe_int pa_nil)))) (pa_cons (pe_op op_add (pv 1) pe_int) pa_nil))))))))))))))))
      (pss_one (ps_ret (pe_ix (ixK K ix_seq) (pv 3) (pe_fn G_law_take hr (pa_cons (pv 0) (pa_cons (pe_callB (crK K c_len) rfl B.len (by decide +kernel) (pa_cons (pv 3) pa_nil)) pa_nil))) (fun _ _ => rfl)))))), ?_⟩
    refine r_start (σ' := [some (.ref p), some (.int m), none, none]) rfl ?_
    walk_at "a"
    rename_i far H1 k1 hp1 f0 f1 t1 H2 n2 s2 e2 t2 H3 n3 s3 e3 l1 H4 n4 s4 e4 l2 H5 n5 s5 e5 t3 H6 n6 s6 e6 l H7 n7 s7 e7 j H8 k8 hp8 j0 j1
    have s67 := s7
    have s57 := s6.trans s7
    have s47 := s5.trans s57
    have s37 := s4.trans s47
    have s27 := s3.trans s37
    have s17 := s2.trans s27
    have hp7 := hp1.same s17
    have t78 := hp7.text k8
    have lp : l ≠ p := (hp1.same (((((s2.trans s3).trans s4).trans s5).trans s6))).ne_new n7
    have e8 := k8 _ _ e7 lp
    have np : ∀ {x : Addr} {o : HO}, H7 x = some o → (∀ y z : Int, o ≠ .lst [.int y, .int z]) → x ≠ p := fun {x o} e h z => by
      obtain ⟨y, z', e', _⟩ := hp7.ex
      rw [← z, e] at e'
      exact h y z' (Option.some.inj e')
    have d1 : Dp K H8 (.ref t1) (.tuple []) := .tup (SqT.text t78 (SqT.of (s27 _ _ e2))) .nil
    have d2 : Dp K H8 (.ref t2) (.tuple [.int 0]) := .tup (SqT.text t78 (SqT.of (s37 _ _ e3))) (.cons (.int 0) .nil)
    have d3 : Dp K H8 (.ref l1) (.list []) := .lst (SqL.of (k8 _ _ (s47 _ _ e4) (np (s47 _ _ e4) (by intro y z e; cases e)))) .nil
    have d4 : Dp K H8 (.ref l2) (.list [.int 0]) := .lst (SqL.of (k8 _ _ (s57 _ _ e5) (np (s57 _ _ e5) (by intro y z e; cases e)))) (.cons (.int 0) .nil)
    have d5 : Dp K H8 (.ref t3) (.tuple [.int 0, .int 1, .int 2]) := .tup (SqT.text t78 (SqT.of (s67 _ _ e6))) (.cons (.int 0) (.cons (.int 1) (.cons (.int 2) .nil)))
    have k08 : Keep (At p) H H8 := (k1.trans (Keep.of_same s17)).trans k8
    have fin : ∀ {x : V} {d : PyData}, atI [V.int (-1), V.int m, V.int (m + 1 + far), V.int (-1 - far), V.non, V.str (Str.ofString ""), V.str (Str.ofString "0"), V.str (Str.ofString "a"), V.ref t1, V.ref t2, V.ref l1, V.ref l2, V.ref t3, V.int (m + 1)] j = some x → Dp K H8 x d → (∀ k, x = .int k → ¬ (0 ≤ k ∧ k < m)) → rIx K (V.ref l) (V.int j) H8 Q :=
      fun {x d} hx hd hn => r_ixl (SqL.of e8) hx (q x d H8 k08 hp8 hd hn)
    obtain rfl | rfl | rfl | rfl | rfl | rfl | rfl | rfl | rfl | rfl | rfl | rfl | rfl | rfl : j = 0 ∨ j = 1 ∨ j = 2 ∨ j = 3 ∨ j = 4 ∨ j = 5 ∨ j = 6 ∨ j = 7 ∨ j = 8 ∨ j = 9 ∨ j = 10 ∨ j = 11 ∨ j = 12 ∨ j = 13 := by omega
    · exact fin rfl (.int _) (fun k h => by cases h; omega)
    · exact fin rfl (.int _) (fun k h => by cases h; omega)
    · exact fin rfl (.int _) (fun k h => by cases h; omega)
    · exact fin rfl (.int _) (fun k h => by cases h; omega)
    · exact fin rfl .non (fun k h => by cases h)
    · exact fin rfl (.str _) (fun k h => by cases h)
    · exact fin rfl (.str _) (fun k h => by cases h)
    · exact fin rfl (.str _) (fun k h => by cases h)
    · exact fin rfl d1 (fun k h => by cases h)
    · exact fin rfl d2 (fun k h => by cases h)
    · exact fin rfl d3 (fun k h => by cases h)
    · exact fin rfl d4 (fun k h => by cases h)
    · exact fin rfl d5 (fun k h => by cases h)
    · exact fin rfl (.int _) (fun k h => by cases h; omega)
end
theorem use_wrong {K : PySem.W.Frag} {H : Hp} {Q : VK} {E : XK} {p : Addr} {m : Int} (hp : Pot H p) (hm : 1 ≤ m ∧ m ≤ 200) (q : ∀ (x : V) (d : PyData) (H' : Hp), Keep (At p) H H' → Pot H' p → Dp K H' x d → (∀ k, x = .int k → ¬ (0 ≤ k ∧ k < m)) → Q x H') : sp_wrong K [.ref p, .int m] H Q E := ⟨p, m, rfl, hp, hm, q⟩
/-! ### what the error is not -/
def sp_another (X Y : Addr) (p : Addr × Obj) : Sp := fun vs H Q _ => vs = [.ref p.1] ∧ (∃ vs, p.2.data = .fields vs) ∧ (Zc (.ref X) none p.2 ∨ Zc (.ref Y) none p.2) ∧ Q (.bl false) H
section
variable {P : Program} {w : World} {K : PySem.W.Frag} {mg : Str → Option Value} {base : Heap}
theorem ok_law_is_another (B : Blt mg) (D : Def K mg "_law_is_another" s_law_is_another ["_law_e"]) {E_NoName : Addr} (X_NoName : Exc K mg "NoName" E_NoName) {E_NoSample : Addr} (X_NoSample : Exc K mg "NoSample" E_NoSample) {E_NoText : Addr} (X_NoText : Exc K mg "NoText" E_NoText) {E_NotApart : Addr} (X_NotApart : Exc K mg "NotApart" E_NotApart) {E_NoWatch : Addr} (X_NoWatch : Exc K mg "NoWatch" E_NoWatch) {E_OutOfTimes : Addr} (X_OutOfTimes : Exc K mg "OutOfTimes" E_OutOfTimes) {E_NoColumn : Addr} (X_NoColumn : Exc K mg "NoColumn" E_NoColumn) {E_NotHalf : Addr} (X_NotHalf : Exc K mg "NotHalf" E_NotHalf) (Y_NoColumn : ExcC K E_NoColumn) (W_NoColumn_NoName : PySem.W.kitOne K (.ref E_NoColumn) (.ref E_NoName) = some false) (Z_NoColumn_NoName : PySem.W.exmOne K (.ref E_NoColumn) (.ref E_NoName) = some false) (W_NoColumn_NoSample : PySem.W.kitOne K (.ref E_NoColumn) (.ref E_NoSample) = some false) (Z_NoColumn_NoSample : PySem.W.exmOne K (.ref E_NoColumn) (.ref E_NoSample) = some false) (W_NoColumn_NoText : PySem.W.kitOne K (.ref E_NoColumn) (.ref E_NoText) = some false) (Z_NoColumn_NoText : PySem.W.exmOne K (.ref E_NoColumn) (.ref E_NoText) = some false) (W_NoColumn_NotApart : PySem.W.kitOne K (.ref E_NoColumn) (.ref E_NotApart) = some false) (Z_NoColumn_NotApart : PySem.W.exmOne K (.ref E_NoColumn) (.ref E_NotApart) = some false) (W_NoColumn_NoWatch : PySem.W.kitOne K (.ref E_NoColumn) (.ref E_NoWatch) = some false) (Z_NoColumn_NoWatch : PySem.W.exmOne K (.ref E_NoColumn) (.ref E_NoWatch) = some false) (W_NoColumn_OutOfTimes : PySem.W.kitOne K (.ref E_NoColumn) (.ref E_OutOfTimes) = some false) (Z_NoColumn_OutOfTimes : PySem.W.exmOne K (.ref E_NoColumn) (.ref E_OutOfTimes) = some false) (W_NoColumn_NoColumn : PySem.W.kitOne K (.ref E_NoColumn) (.ref E_NoColumn) = some true) (Z_NoColumn_NoColumn : PySem.W.exmOne K (.ref E_NoColumn) (.ref E_NoColumn) = some true) (W_NoColumn_NotHalf : PySem.W.kitOne K (.ref E_NoColumn) (.ref E_NotHalf) = some false) (Z_NoColumn_NotHalf : PySem.W.exmOne K (.ref E_NoColumn) (.ref E_NotHalf) = some false) (Y_NotHalf : ExcC K E_NotHalf) (W_NotHalf_NoName : PySem.W.kitOne K (.ref E_NotHalf) (.ref E_NoName) = some false) (Z_NotHalf_NoName : PySem.W.exmOne K (.ref E_NotHalf) (.ref E_NoName) = some false) (W_NotHalf_NoSample : PySem.W.kitOne K (.ref E_NotHalf) (.ref E_NoSample) = some false) (Z_NotHalf_NoSample : PySem.W.exmOne K (.ref E_NotHalf) (.ref E_NoSample) = some false) (W_NotHalf_NoText : PySem.W.kitOne K (.ref E_NotHalf) (.ref E_NoText) = some false) (Z_NotHalf_NoText : PySem.W.exmOne K (.ref E_NotHalf) (.ref E_NoText) = some false) (W_NotHalf_NotApart : PySem.W.kitOne K (.ref E_NotHalf) (.ref E_NotApart) = some false) (Z_NotHalf_NotApart : PySem.W.exmOne K (.ref E_NotHalf) (.ref E_NotApart) = some false) (W_NotHalf_NoWatch : PySem.W.kitOne K (.ref E_NotHalf) (.ref E_NoWatch) = some false) (Z_NotHalf_NoWatch : PySem.W.exmOne K (.ref E_NotHalf) (.ref E_NoWatch) = some false) (W_NotHalf_OutOfTimes : PySem.W.kitOne K (.ref E_NotHalf) (.ref E_OutOfTimes) = some false) (Z_NotHalf_OutOfTimes : PySem.W.exmOne K (.ref E_NotHalf) (.ref E_OutOfTimes) = some false) (W_NotHalf_NoColumn : PySem.W.kitOne K (.ref E_NotHalf) (.ref E_NoColumn) = some false) (Z_NotHalf_NoColumn : PySem.W.exmOne K (.ref E_NotHalf) (.ref E_NoColumn) = some false) (W_NotHalf_NotHalf : PySem.W.kitOne K (.ref E_NotHalf) (.ref E_NotHalf) = some true) (Z_NotHalf_NotHalf : PySem.W.exmOne K (.ref E_NotHalf) (.ref E_NotHalf) = some true) :
    FnX P w K mg base 1 "_law_is_another" ["_law_e"] (sp_another E_NoColumn E_NotHalf) := by
  refine D.okE sc_law_is_another (fun p vs H Q E h => ?_) (fun f cdv A outer s H vs Q E p hr h => ?_)
  · obtain ⟨rfl, hf, hz, q⟩ := h
    rfl
  · obtain ⟨rfl, hf, hz, q⟩ := h
    refine ⟨_, (pss_cons (ps_if (PW.pt (pw_or (pt_val (pe_callB (c_isPK K (p := p) (List.mem_singleton.mpr rfl)) rfl B.isinstance (by decide +kernel) (pa_cons (pv 0) (pa_cons (pe_glob (v := .ref E_NoName) rfl X_NoName.g rfl) pa_nil)))) (pw_or (pt_val (pe_callB (c_isPK K (p := p) (List.mem_singleton.mpr rfl)) rfl B.isinstance (by decide +kernel) (pa_cons (pv 0) (pa_cons (pe_glob (v := .ref E_NoSample) rfl X_NoSample.g rfl) pa_nil)))) (pw_or1 (pt_val (pe_callB (c_isPK K (p := p) (List.mem_singleton.mpr rfl)) rfl B.isinstance (by decide +kernel) (pa_cons (pv 0) (pa_cons (pe_glob (v := .ref E_NoText) rfl X_NoText.g rfl) pa_nil))))))))
      (pss_one (ps_ret pe_bl))
      pss_nil)
      (pss_one (ps_ret (pe_or (pe_callB (c_isPK K (p := p) (List.mem_singleton.mpr rfl)) rfl B.isinstance (by decide +kernel) (pa_cons (pv 0) (pa_cons (pe_glob (v := .ref E_NotApart) rfl X_NotApart.g rfl) pa_nil))) (pe_or (pe_callB (c_isPK K (p := p) (List.mem_singleton.mpr rfl)) rfl B.isinstance (by decide +kernel) (pa_cons (pv 0) (pa_cons (pe_glob (v := .ref E_NoWatch) rfl X_NoWatch.g rfl) pa_nil))) (pe_one (pe_callB (c_isPK K (p := p) (List.mem_singleton.mpr rfl)) rfl B.isinstance (by decide +kernel) (pa_cons (pv 0) (pa_cons (pe_glob (v := .ref E_OutOfTimes) rfl X_OutOfTimes.g rfl) pa_nil))))))))), ?_⟩
    refine r_start (σ' := [some (.ref p.1)]) rfl ?_
    rcases hz with hz | hz
    · walk_at "a"
      refine r_isP hz hf Y_NoColumn W_NoColumn_NoName ?_
      walk_at "a"
      refine r_isP hz hf Y_NoColumn W_NoColumn_NoSample ?_
      walk_at "a"
      refine r_isP hz hf Y_NoColumn W_NoColumn_NoText ?_
      walk_at "a"
      refine r_isP hz hf Y_NoColumn W_NoColumn_NotApart ?_
      walk_at "a"
      refine r_isP hz hf Y_NoColumn W_NoColumn_NoWatch ?_
      walk_at "a"
      refine r_isP hz hf Y_NoColumn W_NoColumn_OutOfTimes ?_
      walk_at "a"
      exact q
    · walk_at "a"
      refine r_isP hz hf Y_NotHalf W_NotHalf_NoName ?_
      walk_at "a"
      refine r_isP hz hf Y_NotHalf W_NotHalf_NoSample ?_
      walk_at "a"
      refine r_isP hz hf Y_NotHalf W_NotHalf_NoText ?_
      walk_at "a"
      refine r_isP hz hf Y_NotHalf W_NotHalf_NotApart ?_
      walk_at "a"
      refine r_isP hz hf Y_NotHalf W_NotHalf_NoWatch ?_
      walk_at "a"
      refine r_isP hz hf Y_NotHalf W_NotHalf_OutOfTimes ?_
      walk_at "a"
      exact q
end
/-! ### refused, and how -/
def sp_no_column (K : PySem.W.Frag) : Sp := fun vs H Q _ => ∃ (a : Addr) (b w m : Int) (x : V) (d : PyData), vs = [.ref a, x] ∧ SqT K H a [.int b, .int w, .int m] ∧ Wn b w m ∧ Dp K H x d ∧ (∀ k, x = .int k → ¬ (0 ≤ k ∧ k < m)) ∧ Q (.bl true) H
section
variable {P : Program} {w : World} {K : PySem.W.Frag} {mg : Str → Option Value} {base : Heap}
theorem ok_law_no_column (B : Blt mg) (D : Def K mg "_law_no_column" s_law_no_column ["_law_window_here", "_law_k"]) {E_FourPointsError : Addr} (X_FourPointsError : Exc K mg "FourPointsError" E_FourPointsError) {E_NoColumn : Addr} (X_NoColumn : Exc K mg "NoColumn" E_NoColumn) {E_NotHalf : Addr} (X_NotHalf : Exc K mg "NotHalf" E_NotHalf) (Y_NoColumn : ExcC K E_NoColumn) (W_NoColumn_FourPointsError : PySem.W.kitOne K (.ref E_NoColumn) (.ref E_FourPointsError) = some true) (Z_NoColumn_FourPointsError : PySem.W.exmOne K (.ref E_NoColumn) (.ref E_FourPointsError) = some true) (W_NoColumn_NoColumn : PySem.W.kitOne K (.ref E_NoColumn) (.ref E_NoColumn) = some true) (Z_NoColumn_NoColumn : PySem.W.exmOne K (.ref E_NoColumn) (.ref E_NoColumn) = some true) (W_NoColumn_NotHalf : PySem.W.kitOne K (.ref E_NoColumn) (.ref E_NotHalf) = some false) (Z_NoColumn_NotHalf : PySem.W.exmOne K (.ref E_NoColumn) (.ref E_NotHalf) = some false) (Y_NotHalf : ExcC K E_NotHalf) (W_NotHalf_FourPointsError : PySem.W.kitOne K (.ref E_NotHalf) (.ref E_FourPointsError) = some true) (Z_NotHalf_FourPointsError : PySem.W.exmOne K (.ref E_NotHalf) (.ref E_FourPointsError) = some true) (W_NotHalf_NoColumn : PySem.W.kitOne K (.ref E_NotHalf) (.ref E_NoColumn) = some false) (Z_NotHalf_NoColumn : PySem.W.exmOne K (.ref E_NotHalf) (.ref E_NoColumn) = some false) (W_NotHalf_NotHalf : PySem.W.kitOne K (.ref E_NotHalf) (.ref E_NotHalf) = some true) (Z_NotHalf_NotHalf : PySem.W.exmOne K (.ref E_NotHalf) (.ref E_NotHalf) = some true) (G_times_of : Fn P w K mg base 2 "times_of" ["window", "k"] (sp_times_of K E_NoColumn)) (G_law_is_another : FnX P w K mg base 1 "_law_is_another" ["_law_e"] (sp_another E_NoColumn E_NotHalf)) :
    Fn P w K mg base 3 "_law_no_column" ["_law_window_here", "_law_k"] (sp_no_column K) := by
  refine D.ok sc_law_no_column (fun vs H Q E h => ?_) (fun f cdv A outer s H vs Q E hr h => ?_)
  · obtain ⟨a, b, w', m, x, d, rfl, ha, ⟨⟨b0, b1⟩, ⟨w0, w1⟩, m0, m1⟩, hd, hn, q⟩ := h
    rfl
  · obtain ⟨a, b, w', m, x, d, rfl, ha, ⟨⟨b0, b1⟩, ⟨w0, w1⟩, m0, m1⟩, hd, hn, q⟩ := h
    refine ⟨_, (pss_cons (ps_tryAs (K := K) (i := 2) rfl rfl rfl sc_law_no_column.nd rfl rfl ⟨rfl, by decide, .inl X_FourPointsError.g⟩ (fun W pn xe tk => (pss_one (ps_expr (pe_fnS G_times_of hr (by decide) rfl (fun σ => passAt tk σ) (pa_cons (pv 0) (pa_cons (pv 1) pa_nil))))))
      (fun a oe cls d pn hz hf => (pss_one (ps_ret (pe_and (pe_callB (c_isEK K hz hf) rfl B.isinstance (by decide +kernel) (pa_cons (pv 2) (pa_cons (pe_glob (v := .ref E_NoColumn) rfl X_NoColumn.g rfl) pa_nil))) (pe_and (pe_not (pe_callB (c_isEK K hz hf) rfl B.isinstance (by decide +kernel) (pa_cons (pv 2) (pa_cons (pe_glob (v := .ref E_NotHalf) rfl X_NotHalf.g rfl) pa_nil)))) (pe_one (pe_not (pe_callErr G_law_is_another hr hz hf (pa_cons (pv 2) pa_nil))))))))))
      (pss_one (ps_ret pe_bl))), ?_⟩
    refine r_start (σ' := [some (.ref a), some (x), none]) rfl ?_
    walk_at "a"
    refine ⟨a, b, w', m, x, d, rfl, ha, hd, by omega, by omega, by omega, fun k e k0 k1 => absurd ⟨k0, k1⟩ (hn k e), fun _ => ?_⟩
    refine r_wAs Z_NoColumn_FourPointsError fun e he => ?_
    walk_at "a"
    refine r_isE Y_NoColumn W_NoColumn_NoColumn ?_
    walk_at "a"
    refine r_isE Y_NoColumn W_NoColumn_NotHalf ?_
    walk_at "a"
    refine r_callErr ?_
    walk_at "a"
    intro oe hz hf
    refine ⟨rfl, hf, .inl hz, ?_⟩
    walk_at "a"
    exact q
end
theorem use_no_column {K : PySem.W.Frag} {H : Hp} {Q : VK} {E : XK} {a : Addr} {b w m : Int} {x : V} {d : PyData} (ha : SqT K H a [.int b, .int w, .int m]) (wn : Wn b w m) (hd : Dp K H x d) (hn : ∀ k, x = .int k → ¬ (0 ≤ k ∧ k < m)) (q : Q (.bl true) H) : sp_no_column K [.ref a, x] H Q E := ⟨a, b, w, m, x, d, rfl, ha, wn, hd, hn, q⟩
def sp_no_half (K : PySem.W.Frag) : Sp := fun vs H Q _ => ∃ (a : Addr) (b w m : Int), vs = [.ref a] ∧ SqT K H a [.int b, .int w, .int m] ∧ ¬ w % 2 = 0 ∧ Q (.bl true) H
section
variable {P : Program} {w : World} {K : PySem.W.Frag} {mg : Str → Option Value} {base : Heap}
theorem ok_law_no_half (B : Blt mg) (D : Def K mg "_law_no_half" s_law_no_half ["_law_window_here"]) {E_FourPointsError : Addr} (X_FourPointsError : Exc K mg "FourPointsError" E_FourPointsError) {E_NotHalf : Addr} (X_NotHalf : Exc K mg "NotHalf" E_NotHalf) {E_NoColumn : Addr} (X_NoColumn : Exc K mg "NoColumn" E_NoColumn) (Y_NotHalf : ExcC K E_NotHalf) (W_NotHalf_FourPointsError : PySem.W.kitOne K (.ref E_NotHalf) (.ref E_FourPointsError) = some true) (Z_NotHalf_FourPointsError : PySem.W.exmOne K (.ref E_NotHalf) (.ref E_FourPointsError) = some true) (W_NotHalf_NotHalf : PySem.W.kitOne K (.ref E_NotHalf) (.ref E_NotHalf) = some true) (Z_NotHalf_NotHalf : PySem.W.exmOne K (.ref E_NotHalf) (.ref E_NotHalf) = some true) (W_NotHalf_NoColumn : PySem.W.kitOne K (.ref E_NotHalf) (.ref E_NoColumn) = some false) (Z_NotHalf_NoColumn : PySem.W.exmOne K (.ref E_NotHalf) (.ref E_NoColumn) = some false) (Y_NoColumn : ExcC K E_NoColumn) (W_NoColumn_FourPointsError : PySem.W.kitOne K (.ref E_NoColumn) (.ref E_FourPointsError) = some true) (Z_NoColumn_FourPointsError : PySem.W.exmOne K (.ref E_NoColumn) (.ref E_FourPointsError) = some true) (W_NoColumn_NotHalf : PySem.W.kitOne K (.ref E_NoColumn) (.ref E_NotHalf) = some false) (Z_NoColumn_NotHalf : PySem.W.exmOne K (.ref E_NoColumn) (.ref E_NotHalf) = some false) (W_NoColumn_NoColumn : PySem.W.kitOne K (.ref E_NoColumn) (.ref E_NoColumn) = some true) (Z_NoColumn_NoColumn : PySem.W.exmOne K (.ref E_NoColumn) (.ref E_NoColumn) = some true) (G_narrowed : Fn P w K mg base 1 "narrowed" ["window"] (sp_narrowed K E_NotHalf)) (G_law_is_another : FnX P w K mg base 1 "_law_is_another" ["_law_e"] (sp_another E_NoColumn E_NotHalf)) :
    Fn P w K mg base 2 "_law_no_half" ["_law_window_here"] (sp_no_half K) := by
  refine D.ok sc_law_no_half (fun vs H Q E h => ?_) (fun f cdv A outer s H vs Q E hr h => ?_)
  · obtain ⟨a, b, w', m, rfl, ha, hn, q⟩ := h
    rfl
  · obtain ⟨a, b, w', m, rfl, ha, hn, q⟩ := h
    refine ⟨_, (pss_cons (ps_tryAs (K := K) (i := 1) rfl rfl rfl sc_law_no_half.nd rfl rfl ⟨rfl, by decide, .inl X_FourPointsError.g⟩ (fun W pn xe tk => (pss_one (ps_expr (pe_fnS G_narrowed hr (by decide) rfl (fun σ => passAt tk σ) (pa_cons (pv 0) pa_nil)))))
      (fun a oe cls d pn hz hf => (pss_one (ps_ret (pe_and (pe_callB (c_isEK K hz hf) rfl B.isinstance (by decide +kernel) (pa_cons (pv 1) (pa_cons (pe_glob (v := .ref E_NotHalf) rfl X_NotHalf.g rfl) pa_nil))) (pe_and (pe_not (pe_callB (c_isEK K hz hf) rfl B.isinstance (by decide +kernel) (pa_cons (pv 1) (pa_cons (pe_glob (v := .ref E_NoColumn) rfl X_NoColumn.g rfl) pa_nil)))) (pe_one (pe_not (pe_callErr G_law_is_another hr hz hf (pa_cons (pv 1) pa_nil))))))))))
      (pss_one (ps_ret pe_bl))), ?_⟩
    refine r_start (σ' := [some (.ref a), none]) rfl ?_
    walk_at "a"
    refine ⟨a, b, w', m, rfl, ha, fun z => absurd z hn, fun _ => ?_⟩
    refine r_wAs Z_NotHalf_FourPointsError fun e he => ?_
    walk_at "a"
    refine r_isE Y_NotHalf W_NotHalf_NotHalf ?_
    walk_at "a"
    refine r_isE Y_NotHalf W_NotHalf_NoColumn ?_
    walk_at "a"
    refine r_callErr ?_
    walk_at "a"
    intro oe hz hf
    refine ⟨rfl, hf, .inr hz, ?_⟩
    walk_at "a"
    exact q
end
theorem use_no_half {K : PySem.W.Frag} {H : Hp} {Q : VK} {E : XK} {a : Addr} {b w m : Int} (ha : SqT K H a [.int b, .int w, .int m]) (hn : ¬ w % 2 = 0) (q : Q (.bl true) H) : sp_no_half K [.ref a] H Q E := ⟨a, b, w, m, rfl, ha, hn, q⟩
section
variable {P : Program} {w : World} {K : PySem.W.Frag} {mg : Str → Option Value} {base : Heap}
theorem ok_law {f : Addr} {fd : FuncData} (B : Blt mg) (F : Fun K "law" "law" s_law f fd) (G_law_pot : Fn P w K mg base 1 "_law_pot" ["_law_cell"] (sp_pot K)) (G_law_window : Fn P w K mg base 2 "_law_window" ["_law_pot_here"] (sp_window K)) (G_law_nth : Fn P w K mg base 1 "_law_nth" ["_law_script", "_law_k"] (sp_nth K)) (G_times_of : Fn P w K mg base 2 "times_of" ["window", "k"] (sp_times_of K E_NoColumn)) (G_law_no_column : Fn P w K mg base 3 "_law_no_column" ["_law_window_here", "_law_k"] (sp_no_column K)) (G_law_no_half : Fn P w K mg base 2 "_law_no_half" ["_law_window_here"] (sp_no_half K)) (G_narrowed : Fn P w K mg base 1 "narrowed" ["window"] (sp_narrowed K E_NotHalf)) (G_law_wrong : Fn P w K mg base 2 "_law_wrong" ["_law_pot_here", "_law_many"] (sp_wrong K)) (G_widened : Fn P w K mg base 1 "widened" ["window"] (sp_widened K)) :
    FnOk P w K mg base (L2.CX P w) 4 f fd ["_law_script"] (sp_law K) := by
  refine fn_up (F.ok sc_law (fun vs H Q E h => ?_) (fun cdv A outer s H vs Q E hr h => ?_))
  · obtain ⟨sa, ns, rfl, hS, hl, q⟩ := h
    rfl
  · obtain ⟨sa, ns, rfl, hS, hl, q⟩ := h
    refine ⟨_, (pss_cons (ps_for PassesOwn.never rfl (pi_range1 rfl B.range (pa_cons (pe_callB (c_max2 rfl) rfl B.max (by decide +kernel) (pa_cons pe_int (pa_cons (pe_callB (c_min2 rfl) rfl B.min (by decide +kernel) (pa_cons pe_int (pa_cons (pe_callB (crK K c_len) rfl B.len (by decide +kernel) (pa_cons (pv 0) pa_nil)) pa_nil))) pa_nil))) pa_nil)) (pg_name (i := 1) sc_law.nd rfl (Or.inl rfl))
      (pss_cons (ps_set (i := 2) sc_law.nd rfl (Or.inl rfl) (pe_fn G_law_pot hr (pa_cons (pe_op op_add (pe_fn G_law_nth hr (pa_cons (pv 0) (pa_cons (pv 1) pa_nil))) (pe_op op_mulY (pe_op op_mulY pe_int (pv 1)) (pe_callTy c_int1 rfl B.int (by decide +kernel) (pa_cons (pe_cmpR op_lt (pe_callB c_abs rfl B.abs (by decide +kernel) (pa_cons (pe_fn G_law_nth hr (pa_cons (pv 0) (pa_cons (pv 1) pa_nil))) pa_nil)) (pe_powC (z := 1000000000000000000) (by decide +kernel) (by decide +kernel)) (nomark _)) pa_nil)))) pa_nil)))
      (pss_cons (ps_set (i := 3) sc_law.nd rfl (Or.inl rfl) (pe_fn G_law_window hr (pa_cons (pv 2) pa_nil)))
      (pss_cons (ps_asg (pv 3) (pgK_tup K (n := 3) rfl (pgs_cons (pg_name (i := 4) sc_law.nd rfl (Or.inl rfl)) (pgs_cons (pg_name (i := 5) sc_law.nd rfl (Or.inl rfl)) (pgs_cons (pg_name (i := 6) sc_law.nd rfl (Or.inl rfl)) pgs_nil)))))
      (pss_cons (ps_set (i := 7) sc_law.nd rfl (Or.inl rfl) (pe_tup (pa_cons (pe_op op_add (pv 4) (pe_op op_mulY (pe_op op_sub (pv 6) pe_int) (pv 5))) (pa_cons (pe_op op_add (pv 4) (pe_op op_mulY (pv 6) (pv 5))) pa_nil))))
      (pss_cons (ps_if (PW.pt (pw_or (pt_cmpR (opK K (o_ne hr.units)) (pe_fn G_times_of hr (pa_cons (pv 3) (pa_cons (pe_op op_sub (pv 6) pe_int) pa_nil))) (pv 7) (nomark _)) (pw_or (pt_not (pt_val (pe_fn G_law_no_column hr (pa_cons (pv 3) (pa_cons (pv 6) pa_nil))))) (pw_or1 (pt_not (pt_val (pe_fn G_law_no_column hr (pa_cons (pv 3) (pa_cons (pe_un un_neg pe_int) pa_nil)))))))))
      (pss_one (ps_ret pe_bl))
      pss_nil)
      (pss_cons (ps_if (PW.pt (pw_or (pt_not (pt_val (pe_fn G_law_no_column hr (pa_cons (pv 3) (pa_cons (pe_fn G_law_wrong hr (pa_cons (pv 2) (pa_cons (pv 6) pa_nil))) pa_nil))))) (pw_or1 (pt_cmpR (opK K (o_ne hr.units)) (pe_fn G_times_of hr (pa_cons (pv 3) (pa_cons pe_int pa_nil))) (pe_tup (pa_cons (pv 4) (pa_cons (pe_op op_add (pv 4) (pv 5)) pa_nil))) (nomark _)))))
      (pss_one (ps_ret pe_bl))
      pss_nil)
      (pss_cons (ps_set (i := 8) sc_law.nd rfl (Or.inl rfl) (pe_tup (pa_cons (pv 4) (pa_cons (pe_op op_add (pe_op op_mulY pe_int (pe_op op_fdivW (pv 5) pe_int)) pe_int) (pa_cons (pv 6) pa_nil)))))
      (pss_one (ps_if (PW.pt (pw_or (pt_not (pt_val (pe_fn G_law_no_half hr (pa_cons (pv 8) pa_nil)))) (pw_or (pt_cmpR (opK K (o_ne hr.units)) (pe_fn G_narrowed hr (pa_cons (pe_fn G_widened hr (pa_cons (pv 8) pa_nil)) pa_nil)) (pv 8) (nomark _)) (pw_or1 (pt_not (pt_val (pe_fn G_law_no_half hr (pa_cons (pv 8) pa_nil))))))))
      (pss_one (ps_ret pe_bl))
      pss_nil))))))))))
      (pss_one (ps_ret pe_bl))), ?_⟩
    refine r_start (σ' := [some (.ref sa), none, none, none, none, none, none, none, none]) rfl ?_
    have hS0 := hS.1
    walk_at "a"
    refine for_wk wk_rng (fun i σ H' => (∃ v1 v2 v3 v4 v5 v6 v7 v8 : Option V, σ = [some (.ref sa), v1, v2, v3, v4, v5, v6, v7, v8]) ∧ TExt H H') ⟨⟨_, _, _, _, _, _, _, _, rfl⟩, TExt.refl _⟩ (fun _ _ _ _ _ => trivial) ?_ ?_
    · rintro i x σ H1 H1' hi ⟨⟨v1, v2, v3, v4, v5, v6, v7, v8, rfl⟩, t1⟩ ⟨rfl, rfl⟩
      have hS1 := (hS.text t1).1
      walk_at "a"
      rename_i p H2 n2 s2 hp2
      refine use_window hp2 fun wa H3 b w' m k3 hp3 e3 wn => ?_
      obtain ⟨⟨b0, b1⟩, ⟨w0, w1⟩, m0, m1⟩ := id wn
      have g0 : 0 ≤ m * w' := Int.mul_nonneg (by omega) (by omega)
      walk_at "a"
      rename_i pl H4 n4 s4 e4 pt H5 s5 e5
      have el : b + (m - 1) * w' + w' = b + m * w' := by rw [Int.sub_mul, Int.one_mul]; omega
      rw [el] at e5
      have pair : ∀ {H' : Hp} {x : Addr} {y z : Int}, SqT K H' x [.int y, .int z] → Dp K H' (.ref x) (pairP (y, z)) := fun h => dp_of_pair h
      have es : ∀ p : Int × Int, SeqAt.shaped (pairP p) = true := fun p => (Shp.t2 (n := 0) (.int p.1) (.int p.2)).ok
      refine r_ne_d (pair (SqT.of e5)) (pair (SqT.of (s5 _ _ e4))) (es _) (es _) ?_
      rw [eqv_same (es _)]
      have s35 := s4.trans s5
      have e35 := s35 _ _ e3
      walk_at "a"
      refine use_no_column (SqT.of e35) wn (.int m) (fun k h => by cases h; omega) ?_
      walk_at "a"
      refine use_no_column (SqT.of e35) wn (.int (-1)) (fun k h => by cases h; omega) ?_
      walk_at "a"
      refine use_wrong (hp3.same s35) ⟨m0, m1⟩ fun x d H6 k6 hp6 hd hn => ?_
      have t6 := (hp3.same s35).text k6
      have e36 := SqT.text t6 (SqT.of (K := K) e35)
      walk_at "a"
      refine use_no_column e36 wn hd hn ?_
      walk_at "a"
      rename_i q1 H7 s7 e7 q2 H8 n8 s8 e8
      rw [show b + 0 * w' = b by omega] at e7
      refine r_ne_d (pair (SqT.of (s8 _ _ e7))) (pair (SqT.of e8)) (es _) (es _) ?_
      rw [eqv_same (es _)]
      walk_at "a"
      rename_i od H9 n9 s9 e9
      have hodd : ¬ (2 * (w' / 2) + 1) % 2 = 0 := by omega
      refine use_no_half (SqT.of e9) hodd ?_
      walk_at "a"
      refine use_widened (SqT.of e9) fun wd H10 s10 e10 => ?_
      walk_at "a"
      refine use_narrowed (SqT.of e10) (by omega) fun nw H11 s11 e11 => ?_
      walk_at "a"
      have s911 := s10.trans s11
      have trip : ∀ {H' : Hp} {x : Addr} {y z u : Int}, SqT K H' x [.int y, .int z, .int u] → Dp K H' (.ref x) (.tuple [.int y, .int z, .int u]) := fun h => .tup h (.cons (.int _) (.cons (.int _) (.cons (.int _) .nil)))
      have et : ∀ x y z : Int, SeqAt.shaped (.tuple [.int x, .int y, .int z]) = true := fun x y z => (Shp.t3 (n := 0) (.int x) (.int y) (.int z)).ok
      rw [show 2 * (2 * (w' / 2) + 1) / 2 = 2 * (w' / 2) + 1 by omega] at e11
      refine r_ne_d (trip (SqT.of e11)) (trip (SqT.of (s911 _ _ e9))) (et _ _ _) (et _ _ _) ?_
      rw [eqv_same (et _ _ _)]
      walk_at "a"
      refine use_no_half (SqT.of (s911 _ _ e9)) hodd ?_
      walk_at "a"
      have t35 := TExt.of_same s35
      exact ⟨⟨_, _, _, _, _, _, _, _, rfl⟩, t1.trans ((TExt.of_same s2).trans ((hp2.text k3).trans (t35.trans (t6.trans (TExt.of_same (((s7.trans s8).trans s9).trans s911))))))⟩
    · rintro σ H1 ⟨⟨v1, v2, v3, v4, v5, v6, v7, v8, rfl⟩, t1⟩
      walk_at "a"
      exact q _
end
theorem all_mk {l : PySem.W.OpenLaw} {w : World} {K : PySem.W.Frag} {h : Heap} {mg : Str → Option Value} {fa : Addr} (X : K.In h) (G : h.Ns mainGlobals mg) (hfa : mg "law" = some (.ref fa))
    {od_is_number an_is_number : Option Addr} {sl_is_number : Array (Option Value)} {f_is_number : Addr} {oc_is_number kV_is_number dc_is_number pm_is_number cd_is_number ct_is_number : Value}
    (a_is_number : PySem.W.nsIn K mainGlobals "is_number" = some (some (.ref f_is_number)))
    (l_is_number : K.lookup f_is_number = some ⟨oc_is_number, od_is_number, .func (PySem.W.fnOf "is_number" "is_number" (defArgs s_is_number) (defBody s_is_number) (defScope s_is_number) .none kV_is_number dc_is_number pm_is_number an_is_number cd_is_number ct_is_number), sl_is_number⟩)
    (c_is_number : PySem.W.codeIn K cd_is_number "is_number" = true) (k_is_number : PySem.W.keepIn K (.ref f_is_number) = true)
    {od_times_of an_times_of : Option Addr} {sl_times_of : Array (Option Value)} {f_times_of : Addr} {oc_times_of kV_times_of dc_times_of pm_times_of cd_times_of ct_times_of : Value}
    (a_times_of : PySem.W.nsIn K mainGlobals "times_of" = some (some (.ref f_times_of)))
    (l_times_of : K.lookup f_times_of = some ⟨oc_times_of, od_times_of, .func (PySem.W.fnOf "times_of" "times_of" (defArgs s_times_of) (defBody s_times_of) (defScope s_times_of) .none kV_times_of dc_times_of pm_times_of an_times_of cd_times_of ct_times_of), sl_times_of⟩)
    (c_times_of : PySem.W.codeIn K cd_times_of "times_of" = true) (k_times_of : PySem.W.keepIn K (.ref f_times_of) = true)
    {od_widened an_widened : Option Addr} {sl_widened : Array (Option Value)} {f_widened : Addr} {oc_widened kV_widened dc_widened pm_widened cd_widened ct_widened : Value}
    (a_widened : PySem.W.nsIn K mainGlobals "widened" = some (some (.ref f_widened)))
    (l_widened : K.lookup f_widened = some ⟨oc_widened, od_widened, .func (PySem.W.fnOf "widened" "widened" (defArgs s_widened) (defBody s_widened) (defScope s_widened) .none kV_widened dc_widened pm_widened an_widened cd_widened ct_widened), sl_widened⟩)
    (c_widened : PySem.W.codeIn K cd_widened "widened" = true) (k_widened : PySem.W.keepIn K (.ref f_widened) = true)
    {od_narrowed an_narrowed : Option Addr} {sl_narrowed : Array (Option Value)} {f_narrowed : Addr} {oc_narrowed kV_narrowed dc_narrowed pm_narrowed cd_narrowed ct_narrowed : Value}
    (a_narrowed : PySem.W.nsIn K mainGlobals "narrowed" = some (some (.ref f_narrowed)))
    (l_narrowed : K.lookup f_narrowed = some ⟨oc_narrowed, od_narrowed, .func (PySem.W.fnOf "narrowed" "narrowed" (defArgs s_narrowed) (defBody s_narrowed) (defScope s_narrowed) .none kV_narrowed dc_narrowed pm_narrowed an_narrowed cd_narrowed ct_narrowed), sl_narrowed⟩)
    (c_narrowed : PySem.W.codeIn K cd_narrowed "narrowed" = true) (k_narrowed : PySem.W.keepIn K (.ref f_narrowed) = true)
    {od_law_nth an_law_nth : Option Addr} {sl_law_nth : Array (Option Value)} {f_law_nth : Addr} {oc_law_nth kV_law_nth dc_law_nth pm_law_nth cd_law_nth ct_law_nth : Value}
    (a_law_nth : PySem.W.nsIn K mainGlobals "_law_nth" = some (some (.ref f_law_nth)))
    (l_law_nth : K.lookup f_law_nth = some ⟨oc_law_nth, od_law_nth, .func (PySem.W.fnOf "_law_nth" "_law_nth" (defArgs s_law_nth) (defBody s_law_nth) (defScope s_law_nth) .none kV_law_nth dc_law_nth pm_law_nth an_law_nth cd_law_nth ct_law_nth), sl_law_nth⟩)
    (c_law_nth : PySem.W.codeIn K cd_law_nth "_law_nth" = true) (k_law_nth : PySem.W.keepIn K (.ref f_law_nth) = true)
    {od_law_pot an_law_pot : Option Addr} {sl_law_pot : Array (Option Value)} {f_law_pot : Addr} {oc_law_pot kV_law_pot dc_law_pot pm_law_pot cd_law_pot ct_law_pot : Value}
    (a_law_pot : PySem.W.nsIn K mainGlobals "_law_pot" = some (some (.ref f_law_pot)))
    (l_law_pot : K.lookup f_law_pot = some ⟨oc_law_pot, od_law_pot, .func (PySem.W.fnOf "_law_pot" "_law_pot" (defArgs s_law_pot) (defBody s_law_pot) (defScope s_law_pot) .none kV_law_pot dc_law_pot pm_law_pot an_law_pot cd_law_pot ct_law_pot), sl_law_pot⟩)
    (c_law_pot : PySem.W.codeIn K cd_law_pot "_law_pot" = true) (k_law_pot : PySem.W.keepIn K (.ref f_law_pot) = true)
    {od_law_take an_law_take : Option Addr} {sl_law_take : Array (Option Value)} {f_law_take : Addr} {oc_law_take kV_law_take dc_law_take pm_law_take cd_law_take ct_law_take : Value}
    (a_law_take : PySem.W.nsIn K mainGlobals "_law_take" = some (some (.ref f_law_take)))
    (l_law_take : K.lookup f_law_take = some ⟨oc_law_take, od_law_take, .func (PySem.W.fnOf "_law_take" "_law_take" (defArgs s_law_take) (defBody s_law_take) (defScope s_law_take) .none kV_law_take dc_law_take pm_law_take an_law_take cd_law_take ct_law_take), sl_law_take⟩)
    (c_law_take : PySem.W.codeIn K cd_law_take "_law_take" = true) (k_law_take : PySem.W.keepIn K (.ref f_law_take) = true)
    {od_law_window an_law_window : Option Addr} {sl_law_window : Array (Option Value)} {f_law_window : Addr} {oc_law_window kV_law_window dc_law_window pm_law_window cd_law_window ct_law_window : Value}
    (a_law_window : PySem.W.nsIn K mainGlobals "_law_window" = some (some (.ref f_law_window)))
    (l_law_window : K.lookup f_law_window = some ⟨oc_law_window, od_law_window, .func (PySem.W.fnOf "_law_window" "_law_window" (defArgs s_law_window) (defBody s_law_window) (defScope s_law_window) .none kV_law_window dc_law_window pm_law_window an_law_window cd_law_window ct_law_window), sl_law_window⟩)
    (c_law_window : PySem.W.codeIn K cd_law_window "_law_window" = true) (k_law_window : PySem.W.keepIn K (.ref f_law_window) = true)
    {od_law_wrong an_law_wrong : Option Addr} {sl_law_wrong : Array (Option Value)} {f_law_wrong : Addr} {oc_law_wrong kV_law_wrong dc_law_wrong pm_law_wrong cd_law_wrong ct_law_wrong : Value}
    (a_law_wrong : PySem.W.nsIn K mainGlobals "_law_wrong" = some (some (.ref f_law_wrong)))
    (l_law_wrong : K.lookup f_law_wrong = some ⟨oc_law_wrong, od_law_wrong, .func (PySem.W.fnOf "_law_wrong" "_law_wrong" (defArgs s_law_wrong) (defBody s_law_wrong) (defScope s_law_wrong) .none kV_law_wrong dc_law_wrong pm_law_wrong an_law_wrong cd_law_wrong ct_law_wrong), sl_law_wrong⟩)
    (c_law_wrong : PySem.W.codeIn K cd_law_wrong "_law_wrong" = true) (k_law_wrong : PySem.W.keepIn K (.ref f_law_wrong) = true)
    {od_law_is_another an_law_is_another : Option Addr} {sl_law_is_another : Array (Option Value)} {f_law_is_another : Addr} {oc_law_is_another kV_law_is_another dc_law_is_another pm_law_is_another cd_law_is_another ct_law_is_another : Value}
    (a_law_is_another : PySem.W.nsIn K mainGlobals "_law_is_another" = some (some (.ref f_law_is_another)))
    (l_law_is_another : K.lookup f_law_is_another = some ⟨oc_law_is_another, od_law_is_another, .func (PySem.W.fnOf "_law_is_another" "_law_is_another" (defArgs s_law_is_another) (defBody s_law_is_another) (defScope s_law_is_another) .none kV_law_is_another dc_law_is_another pm_law_is_another an_law_is_another cd_law_is_another ct_law_is_another), sl_law_is_another⟩)
    (c_law_is_another : PySem.W.codeIn K cd_law_is_another "_law_is_another" = true) (k_law_is_another : PySem.W.keepIn K (.ref f_law_is_another) = true)
    {od_law_no_column an_law_no_column : Option Addr} {sl_law_no_column : Array (Option Value)} {f_law_no_column : Addr} {oc_law_no_column kV_law_no_column dc_law_no_column pm_law_no_column cd_law_no_column ct_law_no_column : Value}
    (a_law_no_column : PySem.W.nsIn K mainGlobals "_law_no_column" = some (some (.ref f_law_no_column)))
    (l_law_no_column : K.lookup f_law_no_column = some ⟨oc_law_no_column, od_law_no_column, .func (PySem.W.fnOf "_law_no_column" "_law_no_column" (defArgs s_law_no_column) (defBody s_law_no_column) (defScope s_law_no_column) .none kV_law_no_column dc_law_no_column pm_law_no_column an_law_no_column cd_law_no_column ct_law_no_column), sl_law_no_column⟩)
    (c_law_no_column : PySem.W.codeIn K cd_law_no_column "_law_no_column" = true) (k_law_no_column : PySem.W.keepIn K (.ref f_law_no_column) = true)
    {od_law_no_half an_law_no_half : Option Addr} {sl_law_no_half : Array (Option Value)} {f_law_no_half : Addr} {oc_law_no_half kV_law_no_half dc_law_no_half pm_law_no_half cd_law_no_half ct_law_no_half : Value}
    (a_law_no_half : PySem.W.nsIn K mainGlobals "_law_no_half" = some (some (.ref f_law_no_half)))
    (l_law_no_half : K.lookup f_law_no_half = some ⟨oc_law_no_half, od_law_no_half, .func (PySem.W.fnOf "_law_no_half" "_law_no_half" (defArgs s_law_no_half) (defBody s_law_no_half) (defScope s_law_no_half) .none kV_law_no_half dc_law_no_half pm_law_no_half an_law_no_half cd_law_no_half ct_law_no_half), sl_law_no_half⟩)
    (c_law_no_half : PySem.W.codeIn K cd_law_no_half "_law_no_half" = true) (k_law_no_half : PySem.W.keepIn K (.ref f_law_no_half) = true)
    {od_law an_law : Option Addr} {sl_law : Array (Option Value)} {f_law : Addr} {oc_law kV_law dc_law pm_law cd_law ct_law : Value}
    (a_law : PySem.W.nsIn K mainGlobals "law" = some (some (.ref f_law)))
    (l_law : K.lookup f_law = some ⟨oc_law, od_law, .func (PySem.W.fnOf "law" "law" (defArgs s_law) (defBody s_law) (defScope s_law) .none kV_law dc_law pm_law an_law cd_law ct_law), sl_law⟩)
    (c_law : PySem.W.codeIn K cd_law "law" = true) (k_law : PySem.W.keepIn K (.ref f_law) = true)
    (z_isinstance : PySem.W.nsIn K mainGlobals "isinstance" = some none)
    (z_len : PySem.W.nsIn K mainGlobals "len" = some none)
    (z_range : PySem.W.nsIn K mainGlobals "range" = some none)
    (z_int : PySem.W.nsIn K mainGlobals "int" = some none)
    (z_bool : PySem.W.nsIn K mainGlobals "bool" = some none)
    (z_str : PySem.W.nsIn K mainGlobals "str" = some none)
    (z_tuple : PySem.W.nsIn K mainGlobals "tuple" = some none)
    (z_list : PySem.W.nsIn K mainGlobals "list" = some none)
    (z_set : PySem.W.nsIn K mainGlobals "set" = some none)
    (z_dict : PySem.W.nsIn K mainGlobals "dict" = some none)
    (z_abs : PySem.W.nsIn K mainGlobals "abs" = some none)
    (z_all : PySem.W.nsIn K mainGlobals "all" = some none)
    (z_any : PySem.W.nsIn K mainGlobals "any" = some none)
    (z_max : PySem.W.nsIn K mainGlobals "max" = some none)
    (z_min : PySem.W.nsIn K mainGlobals "min" = some none)
    (z_sum : PySem.W.nsIn K mainGlobals "sum" = some none)
    (z_sorted : PySem.W.nsIn K mainGlobals "sorted" = some none)
    (z_zip : PySem.W.nsIn K mainGlobals "zip" = some none)
    (z_divmod : PySem.W.nsIn K mainGlobals "divmod" = some none)
    (z_repr : PySem.W.nsIn K mainGlobals "repr" = some none)
    (z_reversed : PySem.W.nsIn K mainGlobals "reversed" = some none)
    (z_ValueError : PySem.W.nsIn K mainGlobals "ValueError" = some none)
    {E_FourPointsError : Addr} (xg_FourPointsError : PySem.W.nsIn K mainGlobals "FourPointsError" = some (some (.ref E_FourPointsError))) (xe_FourPointsError : PySem.W.excIn K E_FourPointsError bmV "ValueError.__new__" = true) (xk_FourPointsError : PySem.W.keepIn K (.ref E_FourPointsError) = true) (xb_FourPointsError : PySem.W.subIn K (.ref E_FourPointsError) (.type "BaseException") = some true) (xt_FourPointsError : PySem.W.typeIn K (.ref E_FourPointsError) = some (.type "type"))
    {E_NoText : Addr} (xg_NoText : PySem.W.nsIn K mainGlobals "NoText" = some (some (.ref E_NoText))) (xe_NoText : PySem.W.excIn K E_NoText bmV "ValueError.__new__" = true) (xk_NoText : PySem.W.keepIn K (.ref E_NoText) = true) (xb_NoText : PySem.W.subIn K (.ref E_NoText) (.type "BaseException") = some true) (xt_NoText : PySem.W.typeIn K (.ref E_NoText) = some (.type "type"))
    {E_NoColumn : Addr} (xg_NoColumn : PySem.W.nsIn K mainGlobals "NoColumn" = some (some (.ref E_NoColumn))) (xe_NoColumn : PySem.W.excIn K E_NoColumn bmV "ValueError.__new__" = true) (xk_NoColumn : PySem.W.keepIn K (.ref E_NoColumn) = true) (xb_NoColumn : PySem.W.subIn K (.ref E_NoColumn) (.type "BaseException") = some true) (xt_NoColumn : PySem.W.typeIn K (.ref E_NoColumn) = some (.type "type"))
    {E_NotHalf : Addr} (xg_NotHalf : PySem.W.nsIn K mainGlobals "NotHalf" = some (some (.ref E_NotHalf))) (xe_NotHalf : PySem.W.excIn K E_NotHalf bmV "ValueError.__new__" = true) (xk_NotHalf : PySem.W.keepIn K (.ref E_NotHalf) = true) (xb_NotHalf : PySem.W.subIn K (.ref E_NotHalf) (.type "BaseException") = some true) (xt_NotHalf : PySem.W.typeIn K (.ref E_NotHalf) = some (.type "type"))
    {E_OutOfTimes : Addr} (xg_OutOfTimes : PySem.W.nsIn K mainGlobals "OutOfTimes" = some (some (.ref E_OutOfTimes))) (xe_OutOfTimes : PySem.W.excIn K E_OutOfTimes bmV "ValueError.__new__" = true) (xk_OutOfTimes : PySem.W.keepIn K (.ref E_OutOfTimes) = true) (xb_OutOfTimes : PySem.W.subIn K (.ref E_OutOfTimes) (.type "BaseException") = some true) (xt_OutOfTimes : PySem.W.typeIn K (.ref E_OutOfTimes) = some (.type "type"))
    {E_NoSample : Addr} (xg_NoSample : PySem.W.nsIn K mainGlobals "NoSample" = some (some (.ref E_NoSample))) (xe_NoSample : PySem.W.excIn K E_NoSample bmV "ValueError.__new__" = true) (xk_NoSample : PySem.W.keepIn K (.ref E_NoSample) = true) (xb_NoSample : PySem.W.subIn K (.ref E_NoSample) (.type "BaseException") = some true) (xt_NoSample : PySem.W.typeIn K (.ref E_NoSample) = some (.type "type"))
    {E_NoWatch : Addr} (xg_NoWatch : PySem.W.nsIn K mainGlobals "NoWatch" = some (some (.ref E_NoWatch))) (xe_NoWatch : PySem.W.excIn K E_NoWatch bmV "ValueError.__new__" = true) (xk_NoWatch : PySem.W.keepIn K (.ref E_NoWatch) = true) (xb_NoWatch : PySem.W.subIn K (.ref E_NoWatch) (.type "BaseException") = some true) (xt_NoWatch : PySem.W.typeIn K (.ref E_NoWatch) = some (.type "type"))
    {E_NoName : Addr} (xg_NoName : PySem.W.nsIn K mainGlobals "NoName" = some (some (.ref E_NoName))) (xe_NoName : PySem.W.excIn K E_NoName bmV "ValueError.__new__" = true) (xk_NoName : PySem.W.keepIn K (.ref E_NoName) = true) (xb_NoName : PySem.W.subIn K (.ref E_NoName) (.type "BaseException") = some true) (xt_NoName : PySem.W.typeIn K (.ref E_NoName) = some (.type "type"))
    {E_NotApart : Addr} (xg_NotApart : PySem.W.nsIn K mainGlobals "NotApart" = some (some (.ref E_NotApart))) (xe_NotApart : PySem.W.excIn K E_NotApart bmV "ValueError.__new__" = true) (xk_NotApart : PySem.W.keepIn K (.ref E_NotApart) = true) (xb_NotApart : PySem.W.subIn K (.ref E_NotApart) (.type "BaseException") = some true) (xt_NotApart : PySem.W.typeIn K (.ref E_NotApart) = some (.type "type"))
    (xhn : PySem.W.specialIn K (.builtin "object.__class__") "__get__" = some (some (.builtin "getset_descriptor.__get__"))) (xht : PySem.W.takesIn K (.builtin "object.__class__") = some true)
    (xd_NoName : PySem.W.hasDictIn K E_NoName = true)
    (xd_NoSample : PySem.W.hasDictIn K E_NoSample = true)
    (xd_NoText : PySem.W.hasDictIn K E_NoText = true)
    (xd_NotApart : PySem.W.hasDictIn K E_NotApart = true)
    (xd_NoWatch : PySem.W.hasDictIn K E_NoWatch = true)
    (xd_OutOfTimes : PySem.W.hasDictIn K E_OutOfTimes = true)
    (xd_NoColumn : PySem.W.hasDictIn K E_NoColumn = true)
    (xp_NoColumn : PySem.W.findIn K (.ref E_NoColumn) "__getattribute__" = some (some (.builtin "BaseException.__getattribute__"))) (xq_NoColumn : PySem.W.findIn K (.ref E_NoColumn) "__getattr__" = some none) (xc_NoColumn : PySem.W.findIn K (.ref E_NoColumn) "__class__" = some (some (.builtin "object.__class__"))) (xm_NoColumn : PySem.W.mroIn K E_NoColumn (.type "object") = some true)
    (xd_NotHalf : PySem.W.hasDictIn K E_NotHalf = true)
    (xp_NotHalf : PySem.W.findIn K (.ref E_NotHalf) "__getattribute__" = some (some (.builtin "BaseException.__getattribute__"))) (xq_NotHalf : PySem.W.findIn K (.ref E_NotHalf) "__getattr__" = some none) (xc_NotHalf : PySem.W.findIn K (.ref E_NotHalf) "__class__" = some (some (.builtin "object.__class__"))) (xm_NotHalf : PySem.W.mroIn K E_NotHalf (.type "object") = some true)
    (xd_FourPointsError : PySem.W.hasDictIn K E_FourPointsError = true)
    (xs_NoColumn_NoColumn : PySem.W.subIn K (.ref E_NoColumn) (.ref E_NoColumn) = some true)
    (xs_NoColumn_NoName : PySem.W.subIn K (.ref E_NoColumn) (.ref E_NoName) = some false)
    (xs_NoColumn_NoSample : PySem.W.subIn K (.ref E_NoColumn) (.ref E_NoSample) = some false)
    (xs_NoColumn_NoText : PySem.W.subIn K (.ref E_NoColumn) (.ref E_NoText) = some false)
    (xs_NoColumn_NotApart : PySem.W.subIn K (.ref E_NoColumn) (.ref E_NotApart) = some false)
    (xs_NoColumn_NoWatch : PySem.W.subIn K (.ref E_NoColumn) (.ref E_NoWatch) = some false)
    (xs_NoColumn_OutOfTimes : PySem.W.subIn K (.ref E_NoColumn) (.ref E_OutOfTimes) = some false)
    (xs_NoColumn_NotHalf : PySem.W.subIn K (.ref E_NoColumn) (.ref E_NotHalf) = some false)
    (xs_NotHalf_NotHalf : PySem.W.subIn K (.ref E_NotHalf) (.ref E_NotHalf) = some true)
    (xs_NotHalf_NoName : PySem.W.subIn K (.ref E_NotHalf) (.ref E_NoName) = some false)
    (xs_NotHalf_NoSample : PySem.W.subIn K (.ref E_NotHalf) (.ref E_NoSample) = some false)
    (xs_NotHalf_NoText : PySem.W.subIn K (.ref E_NotHalf) (.ref E_NoText) = some false)
    (xs_NotHalf_NotApart : PySem.W.subIn K (.ref E_NotHalf) (.ref E_NotApart) = some false)
    (xs_NotHalf_NoWatch : PySem.W.subIn K (.ref E_NotHalf) (.ref E_NoWatch) = some false)
    (xs_NotHalf_OutOfTimes : PySem.W.subIn K (.ref E_NotHalf) (.ref E_OutOfTimes) = some false)
    (xs_NotHalf_NoColumn : PySem.W.subIn K (.ref E_NotHalf) (.ref E_NoColumn) = some false)
    (xs_NoColumn_FourPointsError : PySem.W.subIn K (.ref E_NoColumn) (.ref E_FourPointsError) = some true)
    (xs_NotHalf_FourPointsError : PySem.W.subIn K (.ref E_NotHalf) (.ref E_FourPointsError) = some true)
    : ∃ fd : FuncData, (∀ (s : Shared) (v : Value), BindsTo s fd ⟨[v], []⟩ [("_law_script", v)]) ∧ ∀ base : Heap, K.In base → base.Ns mainGlobals mg → FnOk l.prog w K mg base (L2.CX l.prog w) 4 fa fd ["_law_script"] (sp_law K) := by
  have e := hfa.symm.trans (PySem.W.mg_of X G a_law)
  cases e
  have B : Blt mg := ⟨PySem.W.mg_none_of X G z_isinstance, PySem.W.mg_none_of X G z_len, PySem.W.mg_none_of X G z_range, PySem.W.mg_none_of X G z_int, PySem.W.mg_none_of X G z_bool, PySem.W.mg_none_of X G z_str, PySem.W.mg_none_of X G z_tuple, PySem.W.mg_none_of X G z_list, PySem.W.mg_none_of X G z_set, PySem.W.mg_none_of X G z_dict, PySem.W.mg_none_of X G z_abs, PySem.W.mg_none_of X G z_all, PySem.W.mg_none_of X G z_any, PySem.W.mg_none_of X G z_max, PySem.W.mg_none_of X G z_min, PySem.W.mg_none_of X G z_sum, PySem.W.mg_none_of X G z_sorted, PySem.W.mg_none_of X G z_zip, PySem.W.mg_none_of X G z_divmod, PySem.W.mg_none_of X G z_repr, PySem.W.mg_none_of X G z_reversed, PySem.W.mg_none_of X G z_ValueError⟩
  have F_is_number := fun_mk (st := s_is_number) l_is_number c_is_number k_is_number
  have D_is_number : Def K mg "is_number" s_is_number ["thing"] := def_mk F_is_number (PySem.W.mg_of X G a_is_number) (F_is_number.binds (ps := ["thing"]) fun _ _ _ _ _ _ us hl => match us, hl with | [_], _ => rfl)
  have F_times_of := fun_mk (st := s_times_of) l_times_of c_times_of k_times_of
  have D_times_of : Def K mg "times_of" s_times_of ["window", "k"] := def_mk F_times_of (PySem.W.mg_of X G a_times_of) (F_times_of.binds (ps := ["window", "k"]) fun _ _ _ _ _ _ us hl => match us, hl with | [_, _], _ => rfl)
  have F_widened := fun_mk (st := s_widened) l_widened c_widened k_widened
  have D_widened : Def K mg "widened" s_widened ["window"] := def_mk F_widened (PySem.W.mg_of X G a_widened) (F_widened.binds (ps := ["window"]) fun _ _ _ _ _ _ us hl => match us, hl with | [_], _ => rfl)
  have F_narrowed := fun_mk (st := s_narrowed) l_narrowed c_narrowed k_narrowed
  have D_narrowed : Def K mg "narrowed" s_narrowed ["window"] := def_mk F_narrowed (PySem.W.mg_of X G a_narrowed) (F_narrowed.binds (ps := ["window"]) fun _ _ _ _ _ _ us hl => match us, hl with | [_], _ => rfl)
  have F_law_nth := fun_mk (st := s_law_nth) l_law_nth c_law_nth k_law_nth
  have D_law_nth : Def K mg "_law_nth" s_law_nth ["_law_script", "_law_k"] := def_mk F_law_nth (PySem.W.mg_of X G a_law_nth) (F_law_nth.binds (ps := ["_law_script", "_law_k"]) fun _ _ _ _ _ _ us hl => match us, hl with | [_, _], _ => rfl)
  have F_law_pot := fun_mk (st := s_law_pot) l_law_pot c_law_pot k_law_pot
  have D_law_pot : Def K mg "_law_pot" s_law_pot ["_law_cell"] := def_mk F_law_pot (PySem.W.mg_of X G a_law_pot) (F_law_pot.binds (ps := ["_law_cell"]) fun _ _ _ _ _ _ us hl => match us, hl with | [_], _ => rfl)
  have F_law_take := fun_mk (st := s_law_take) l_law_take c_law_take k_law_take
  have D_law_take : Def K mg "_law_take" s_law_take ["_law_pot_here", "_law_many"] := def_mk F_law_take (PySem.W.mg_of X G a_law_take) (F_law_take.binds (ps := ["_law_pot_here", "_law_many"]) fun _ _ _ _ _ _ us hl => match us, hl with | [_, _], _ => rfl)
  have F_law_window := fun_mk (st := s_law_window) l_law_window c_law_window k_law_window
  have D_law_window : Def K mg "_law_window" s_law_window ["_law_pot_here"] := def_mk F_law_window (PySem.W.mg_of X G a_law_window) (F_law_window.binds (ps := ["_law_pot_here"]) fun _ _ _ _ _ _ us hl => match us, hl with | [_], _ => rfl)
  have F_law_wrong := fun_mk (st := s_law_wrong) l_law_wrong c_law_wrong k_law_wrong
  have D_law_wrong : Def K mg "_law_wrong" s_law_wrong ["_law_pot_here", "_law_many"] := def_mk F_law_wrong (PySem.W.mg_of X G a_law_wrong) (F_law_wrong.binds (ps := ["_law_pot_here", "_law_many"]) fun _ _ _ _ _ _ us hl => match us, hl with | [_, _], _ => rfl)
  have F_law_is_another := fun_mk (st := s_law_is_another) l_law_is_another c_law_is_another k_law_is_another
  have D_law_is_another : Def K mg "_law_is_another" s_law_is_another ["_law_e"] := def_mk F_law_is_another (PySem.W.mg_of X G a_law_is_another) (F_law_is_another.binds (ps := ["_law_e"]) fun _ _ _ _ _ _ us hl => match us, hl with | [_], _ => rfl)
  have F_law_no_column := fun_mk (st := s_law_no_column) l_law_no_column c_law_no_column k_law_no_column
  have D_law_no_column : Def K mg "_law_no_column" s_law_no_column ["_law_window_here", "_law_k"] := def_mk F_law_no_column (PySem.W.mg_of X G a_law_no_column) (F_law_no_column.binds (ps := ["_law_window_here", "_law_k"]) fun _ _ _ _ _ _ us hl => match us, hl with | [_, _], _ => rfl)
  have F_law_no_half := fun_mk (st := s_law_no_half) l_law_no_half c_law_no_half k_law_no_half
  have D_law_no_half : Def K mg "_law_no_half" s_law_no_half ["_law_window_here"] := def_mk F_law_no_half (PySem.W.mg_of X G a_law_no_half) (F_law_no_half.binds (ps := ["_law_window_here"]) fun _ _ _ _ _ _ us hl => match us, hl with | [_], _ => rfl)
  have F_law := fun_mk (st := s_law) l_law c_law k_law
  have D_law : Def K mg "law" s_law ["_law_script"] := def_mk F_law (PySem.W.mg_of X G a_law) (F_law.binds (ps := ["_law_script"]) fun _ _ _ _ _ _ us hl => match us, hl with | [_], _ => rfl)
  have X_FourPointsError : Exc K mg "FourPointsError" E_FourPointsError := ⟨PySem.W.mg_of X G xg_FourPointsError, xe_FourPointsError, xk_FourPointsError, xb_FourPointsError, xt_FourPointsError⟩
  have X_NoText : Exc K mg "NoText" E_NoText := ⟨PySem.W.mg_of X G xg_NoText, xe_NoText, xk_NoText, xb_NoText, xt_NoText⟩
  have X_NoColumn : Exc K mg "NoColumn" E_NoColumn := ⟨PySem.W.mg_of X G xg_NoColumn, xe_NoColumn, xk_NoColumn, xb_NoColumn, xt_NoColumn⟩
  have X_NotHalf : Exc K mg "NotHalf" E_NotHalf := ⟨PySem.W.mg_of X G xg_NotHalf, xe_NotHalf, xk_NotHalf, xb_NotHalf, xt_NotHalf⟩
  have X_OutOfTimes : Exc K mg "OutOfTimes" E_OutOfTimes := ⟨PySem.W.mg_of X G xg_OutOfTimes, xe_OutOfTimes, xk_OutOfTimes, xb_OutOfTimes, xt_OutOfTimes⟩
  have X_NoSample : Exc K mg "NoSample" E_NoSample := ⟨PySem.W.mg_of X G xg_NoSample, xe_NoSample, xk_NoSample, xb_NoSample, xt_NoSample⟩
  have X_NoWatch : Exc K mg "NoWatch" E_NoWatch := ⟨PySem.W.mg_of X G xg_NoWatch, xe_NoWatch, xk_NoWatch, xb_NoWatch, xt_NoWatch⟩
  have X_NoName : Exc K mg "NoName" E_NoName := ⟨PySem.W.mg_of X G xg_NoName, xe_NoName, xk_NoName, xb_NoName, xt_NoName⟩
  have X_NotApart : Exc K mg "NotApart" E_NotApart := ⟨PySem.W.mg_of X G xg_NotApart, xe_NotApart, xk_NotApart, xb_NotApart, xt_NotApart⟩
  have Y_NoColumn : ExcC K E_NoColumn := ⟨xp_NoColumn, xq_NoColumn, xb_NoColumn, xd_NoColumn, xc_NoColumn, xhn, xht, xm_NoColumn⟩
  have Y_NotHalf : ExcC K E_NotHalf := ⟨xp_NotHalf, xq_NotHalf, xb_NotHalf, xd_NotHalf, xc_NotHalf, xhn, xht, xm_NotHalf⟩
  have W_NoColumn_NoColumn : PySem.W.kitOne K (.ref E_NoColumn) (.ref E_NoColumn) = some true := kit_true xd_NoColumn xt_NoColumn xs_NoColumn_NoColumn
  have Z_NoColumn_NoColumn : PySem.W.exmOne K (.ref E_NoColumn) (.ref E_NoColumn) = some true := PySem.W.exm_ref xb_NoColumn xd_NoColumn xt_NoColumn xs_NoColumn_NoColumn
  have W_NoColumn_NoName : PySem.W.kitOne K (.ref E_NoColumn) (.ref E_NoName) = some false := kit_false xd_NoName xt_NoName xs_NoColumn_NoColumn xs_NoColumn_NoName
  have Z_NoColumn_NoName : PySem.W.exmOne K (.ref E_NoColumn) (.ref E_NoName) = some false := PySem.W.exm_ref xb_NoName xd_NoName xt_NoName xs_NoColumn_NoName
  have W_NoColumn_NoSample : PySem.W.kitOne K (.ref E_NoColumn) (.ref E_NoSample) = some false := kit_false xd_NoSample xt_NoSample xs_NoColumn_NoColumn xs_NoColumn_NoSample
  have Z_NoColumn_NoSample : PySem.W.exmOne K (.ref E_NoColumn) (.ref E_NoSample) = some false := PySem.W.exm_ref xb_NoSample xd_NoSample xt_NoSample xs_NoColumn_NoSample
  have W_NoColumn_NoText : PySem.W.kitOne K (.ref E_NoColumn) (.ref E_NoText) = some false := kit_false xd_NoText xt_NoText xs_NoColumn_NoColumn xs_NoColumn_NoText
  have Z_NoColumn_NoText : PySem.W.exmOne K (.ref E_NoColumn) (.ref E_NoText) = some false := PySem.W.exm_ref xb_NoText xd_NoText xt_NoText xs_NoColumn_NoText
  have W_NoColumn_NotApart : PySem.W.kitOne K (.ref E_NoColumn) (.ref E_NotApart) = some false := kit_false xd_NotApart xt_NotApart xs_NoColumn_NoColumn xs_NoColumn_NotApart
  have Z_NoColumn_NotApart : PySem.W.exmOne K (.ref E_NoColumn) (.ref E_NotApart) = some false := PySem.W.exm_ref xb_NotApart xd_NotApart xt_NotApart xs_NoColumn_NotApart
  have W_NoColumn_NoWatch : PySem.W.kitOne K (.ref E_NoColumn) (.ref E_NoWatch) = some false := kit_false xd_NoWatch xt_NoWatch xs_NoColumn_NoColumn xs_NoColumn_NoWatch
  have Z_NoColumn_NoWatch : PySem.W.exmOne K (.ref E_NoColumn) (.ref E_NoWatch) = some false := PySem.W.exm_ref xb_NoWatch xd_NoWatch xt_NoWatch xs_NoColumn_NoWatch
  have W_NoColumn_OutOfTimes : PySem.W.kitOne K (.ref E_NoColumn) (.ref E_OutOfTimes) = some false := kit_false xd_OutOfTimes xt_OutOfTimes xs_NoColumn_NoColumn xs_NoColumn_OutOfTimes
  have Z_NoColumn_OutOfTimes : PySem.W.exmOne K (.ref E_NoColumn) (.ref E_OutOfTimes) = some false := PySem.W.exm_ref xb_OutOfTimes xd_OutOfTimes xt_OutOfTimes xs_NoColumn_OutOfTimes
  have W_NoColumn_NotHalf : PySem.W.kitOne K (.ref E_NoColumn) (.ref E_NotHalf) = some false := kit_false xd_NotHalf xt_NotHalf xs_NoColumn_NoColumn xs_NoColumn_NotHalf
  have Z_NoColumn_NotHalf : PySem.W.exmOne K (.ref E_NoColumn) (.ref E_NotHalf) = some false := PySem.W.exm_ref xb_NotHalf xd_NotHalf xt_NotHalf xs_NoColumn_NotHalf
  have W_NotHalf_NotHalf : PySem.W.kitOne K (.ref E_NotHalf) (.ref E_NotHalf) = some true := kit_true xd_NotHalf xt_NotHalf xs_NotHalf_NotHalf
  have Z_NotHalf_NotHalf : PySem.W.exmOne K (.ref E_NotHalf) (.ref E_NotHalf) = some true := PySem.W.exm_ref xb_NotHalf xd_NotHalf xt_NotHalf xs_NotHalf_NotHalf
  have W_NotHalf_NoName : PySem.W.kitOne K (.ref E_NotHalf) (.ref E_NoName) = some false := kit_false xd_NoName xt_NoName xs_NotHalf_NotHalf xs_NotHalf_NoName
  have Z_NotHalf_NoName : PySem.W.exmOne K (.ref E_NotHalf) (.ref E_NoName) = some false := PySem.W.exm_ref xb_NoName xd_NoName xt_NoName xs_NotHalf_NoName
  have W_NotHalf_NoSample : PySem.W.kitOne K (.ref E_NotHalf) (.ref E_NoSample) = some false := kit_false xd_NoSample xt_NoSample xs_NotHalf_NotHalf xs_NotHalf_NoSample
  have Z_NotHalf_NoSample : PySem.W.exmOne K (.ref E_NotHalf) (.ref E_NoSample) = some false := PySem.W.exm_ref xb_NoSample xd_NoSample xt_NoSample xs_NotHalf_NoSample
  have W_NotHalf_NoText : PySem.W.kitOne K (.ref E_NotHalf) (.ref E_NoText) = some false := kit_false xd_NoText xt_NoText xs_NotHalf_NotHalf xs_NotHalf_NoText
  have Z_NotHalf_NoText : PySem.W.exmOne K (.ref E_NotHalf) (.ref E_NoText) = some false := PySem.W.exm_ref xb_NoText xd_NoText xt_NoText xs_NotHalf_NoText
  have W_NotHalf_NotApart : PySem.W.kitOne K (.ref E_NotHalf) (.ref E_NotApart) = some false := kit_false xd_NotApart xt_NotApart xs_NotHalf_NotHalf xs_NotHalf_NotApart
  have Z_NotHalf_NotApart : PySem.W.exmOne K (.ref E_NotHalf) (.ref E_NotApart) = some false := PySem.W.exm_ref xb_NotApart xd_NotApart xt_NotApart xs_NotHalf_NotApart
  have W_NotHalf_NoWatch : PySem.W.kitOne K (.ref E_NotHalf) (.ref E_NoWatch) = some false := kit_false xd_NoWatch xt_NoWatch xs_NotHalf_NotHalf xs_NotHalf_NoWatch
  have Z_NotHalf_NoWatch : PySem.W.exmOne K (.ref E_NotHalf) (.ref E_NoWatch) = some false := PySem.W.exm_ref xb_NoWatch xd_NoWatch xt_NoWatch xs_NotHalf_NoWatch
  have W_NotHalf_OutOfTimes : PySem.W.kitOne K (.ref E_NotHalf) (.ref E_OutOfTimes) = some false := kit_false xd_OutOfTimes xt_OutOfTimes xs_NotHalf_NotHalf xs_NotHalf_OutOfTimes
  have Z_NotHalf_OutOfTimes : PySem.W.exmOne K (.ref E_NotHalf) (.ref E_OutOfTimes) = some false := PySem.W.exm_ref xb_OutOfTimes xd_OutOfTimes xt_OutOfTimes xs_NotHalf_OutOfTimes
  have W_NotHalf_NoColumn : PySem.W.kitOne K (.ref E_NotHalf) (.ref E_NoColumn) = some false := kit_false xd_NoColumn xt_NoColumn xs_NotHalf_NotHalf xs_NotHalf_NoColumn
  have Z_NotHalf_NoColumn : PySem.W.exmOne K (.ref E_NotHalf) (.ref E_NoColumn) = some false := PySem.W.exm_ref xb_NoColumn xd_NoColumn xt_NoColumn xs_NotHalf_NoColumn
  have W_NoColumn_FourPointsError : PySem.W.kitOne K (.ref E_NoColumn) (.ref E_FourPointsError) = some true := kit_true xd_FourPointsError xt_FourPointsError xs_NoColumn_FourPointsError
  have Z_NoColumn_FourPointsError : PySem.W.exmOne K (.ref E_NoColumn) (.ref E_FourPointsError) = some true := PySem.W.exm_ref xb_FourPointsError xd_FourPointsError xt_FourPointsError xs_NoColumn_FourPointsError
  have W_NotHalf_FourPointsError : PySem.W.kitOne K (.ref E_NotHalf) (.ref E_FourPointsError) = some true := kit_true xd_FourPointsError xt_FourPointsError xs_NotHalf_FourPointsError
  have Z_NotHalf_FourPointsError : PySem.W.exmOne K (.ref E_NotHalf) (.ref E_FourPointsError) = some true := PySem.W.exm_ref xb_FourPointsError xd_FourPointsError xt_FourPointsError xs_NotHalf_FourPointsError
  refine ⟨PySem.W.fnOf "law" "law" (defArgs s_law) (defBody s_law) (defScope s_law) .none kV_law dc_law pm_law an_law cd_law ct_law, fun s v => .of_eq rfl, fun base _ _ => ?_⟩
  have G_law_nth := fun base => ok_law_nth (P := l.prog) (w := w) (base := base) B D_law_nth
  have G_law_pot := fun base => ok_law_pot (P := l.prog) (w := w) (base := base) B D_law_pot
  have G_law_take := fun base => ok_law_take (P := l.prog) (w := w) (base := base) B D_law_take
  have G_is_number := fun base => ok_is_number (P := l.prog) (w := w) (base := base) B D_is_number
  have G_times_of := fun base => ok_times_of (P := l.prog) (w := w) (base := base) B D_times_of X_NoColumn (G_is_number base)
  have G_widened := fun base => ok_widened (P := l.prog) (w := w) (base := base) B D_widened
  have G_narrowed := fun base => ok_narrowed (P := l.prog) (w := w) (base := base) B D_narrowed X_NotHalf
  have G_law_window := fun base => ok_law_window (P := l.prog) (w := w) (base := base) B D_law_window (G_law_take base)
  have G_law_wrong := fun base => ok_law_wrong (P := l.prog) (w := w) (base := base) B D_law_wrong (G_law_take base)
  have G_law_is_another := fun base => ok_law_is_another (P := l.prog) (w := w) (base := base) B D_law_is_another X_NoName X_NoSample X_NoText X_NotApart X_NoWatch X_OutOfTimes X_NoColumn X_NotHalf Y_NoColumn W_NoColumn_NoName Z_NoColumn_NoName W_NoColumn_NoSample Z_NoColumn_NoSample W_NoColumn_NoText Z_NoColumn_NoText W_NoColumn_NotApart Z_NoColumn_NotApart W_NoColumn_NoWatch Z_NoColumn_NoWatch W_NoColumn_OutOfTimes Z_NoColumn_OutOfTimes W_NoColumn_NoColumn Z_NoColumn_NoColumn W_NoColumn_NotHalf Z_NoColumn_NotHalf Y_NotHalf W_NotHalf_NoName Z_NotHalf_NoName W_NotHalf_NoSample Z_NotHalf_NoSample W_NotHalf_NoText Z_NotHalf_NoText W_NotHalf_NotApart Z_NotHalf_NotApart W_NotHalf_NoWatch Z_NotHalf_NoWatch W_NotHalf_OutOfTimes Z_NotHalf_OutOfTimes W_NotHalf_NoColumn Z_NotHalf_NoColumn W_NotHalf_NotHalf Z_NotHalf_NotHalf
  have G_law_no_column := fun base => ok_law_no_column (P := l.prog) (w := w) (base := base) B D_law_no_column X_FourPointsError X_NoColumn X_NotHalf Y_NoColumn W_NoColumn_FourPointsError Z_NoColumn_FourPointsError W_NoColumn_NoColumn Z_NoColumn_NoColumn W_NoColumn_NotHalf Z_NoColumn_NotHalf Y_NotHalf W_NotHalf_FourPointsError Z_NotHalf_FourPointsError W_NotHalf_NoColumn Z_NotHalf_NoColumn W_NotHalf_NotHalf Z_NotHalf_NotHalf (G_times_of base) (G_law_is_another base)
  have G_law_no_half := fun base => ok_law_no_half (P := l.prog) (w := w) (base := base) B D_law_no_half X_FourPointsError X_NotHalf X_NoColumn Y_NotHalf W_NotHalf_FourPointsError Z_NotHalf_FourPointsError W_NotHalf_NotHalf Z_NotHalf_NotHalf W_NotHalf_NoColumn Z_NotHalf_NoColumn Y_NoColumn W_NoColumn_FourPointsError Z_NoColumn_FourPointsError W_NoColumn_NotHalf Z_NoColumn_NotHalf W_NoColumn_NoColumn Z_NoColumn_NoColumn (G_narrowed base) (G_law_is_another base)
  exact ok_law B F_law (G_law_pot base) (G_law_window base) (G_law_nth base) (G_times_of base) (G_law_no_column base) (G_law_no_half base) (G_narrowed base) (G_law_wrong base) (G_widened base)

open PySem.W in
theorem walk {l : PySem.W.OpenLaw} {q : Program} {loose : List Str} {XP : (Str → Option Value) → Heap → Prop} {YP : World → Heap → Prop} {d : DefRec} {K : Params → PySem.W.Frag} (hn : l.most = some 63) (hdf : d.params.defaults = [])
    (hY : ∀ (w : World) (h : Heap), YP w h → (K w.params).In h)
    (F : ∀ (w : World) (mg : Str → Option Value) (fa : Addr) (h : Heap), (K w.params).In h → h.Ns mainGlobals mg → mg d.name = some (.ref fa) →
      ∃ fd : FuncData, (∀ (s : Shared) (u : Value), BindsTo s fd ⟨[u], []⟩ [("_law_script", u)]) ∧ ∀ base : Heap, (K w.params).In base → base.Ns mainGlobals mg → FnOk l.prog w (K w.params) mg base (L2.CX l.prog w) 4 fa fd ["_law_script"] (sp_law (K w.params))) :
    PySem.W.WalkO q loose XP YP l.row.toRowW d [] (fun f vs => PySem.call f vs) :=
  L2.walk_ofB (n := 63) (k := 4) (x := "_law_script") (CX := fun w => L2.CX l.prog w) (sp := fun w => sp_law (K w.params)) hn (by decide) hdf ⟨rfl, by decide, by decide⟩ hY F (fun _ H a ns hl hb hO hS => sp_law_top hl hb hO hS)
    fun _ _ _ _ _ z => cx_none z
end Lk24
open PySem PySem.W PyProof.Rows
set_option maxRecDepth 100000 in
set_option maxHeartbeats 0 in
theorem PySem.Challenge.cw_fourpoints_k24_windows_refused_holds : PySem.Challenge.rw_fourpoints_k24_windows_refused.Holds := by
  w_on; o_law; k_head; (case hw => w_witness2)
  k_fill
  refine Lk24.walk (l := PySem.Challenge.rw_fourpoints_k24_windows_refused) rfl rfl (fun w h Y => PySem.W.kIn_of Y) ?F
  case F =>
    intro w mg fa h KX G hmg
    refine' Lk24.all_mk KX G hmg ?a_is_number ?l_is_number ?c_is_number ?k_is_number ?a_times_of ?l_times_of ?c_times_of ?k_times_of ?a_widened ?l_widened ?c_widened ?k_widened ?a_narrowed ?l_narrowed ?c_narrowed ?k_narrowed ?a_law_nth ?l_law_nth ?c_law_nth ?k_law_nth ?a_law_pot ?l_law_pot ?c_law_pot ?k_law_pot ?a_law_take ?l_law_take ?c_law_take ?k_law_take ?a_law_window ?l_law_window ?c_law_window ?k_law_window ?a_law_wrong ?l_law_wrong ?c_law_wrong ?k_law_wrong ?a_law_is_another ?l_law_is_another ?c_law_is_another ?k_law_is_another ?a_law_no_column ?l_law_no_column ?c_law_no_column ?k_law_no_column ?a_law_no_half ?l_law_no_half ?c_law_no_half ?k_law_no_half ?a_law ?l_law ?c_law ?k_law ?z_isinstance ?z_len ?z_range ?z_int ?z_bool ?z_str ?z_tuple ?z_list ?z_set ?z_dict ?z_abs ?z_all ?z_any ?z_max ?z_min ?z_sum ?z_sorted ?z_zip ?z_divmod ?z_repr ?z_reversed ?z_ValueError ?xg_FourPointsError ?xe_FourPointsError ?xk_FourPointsError ?xb_FourPointsError ?xt_FourPointsError ?xg_NoText ?xe_NoText ?xk_NoText ?xb_NoText ?xt_NoText ?xg_NoColumn ?xe_NoColumn ?xk_NoColumn ?xb_NoColumn ?xt_NoColumn ?xg_NotHalf ?xe_NotHalf ?xk_NotHalf ?xb_NotHalf ?xt_NotHalf ?xg_OutOfTimes ?xe_OutOfTimes ?xk_OutOfTimes ?xb_OutOfTimes ?xt_OutOfTimes ?xg_NoSample ?xe_NoSample ?xk_NoSample ?xb_NoSample ?xt_NoSample ?xg_NoWatch ?xe_NoWatch ?xk_NoWatch ?xb_NoWatch ?xt_NoWatch ?xg_NoName ?xe_NoName ?xk_NoName ?xb_NoName ?xt_NoName ?xg_NotApart ?xe_NotApart ?xk_NotApart ?xb_NotApart ?xt_NotApart ?xhn ?xht ?xd_NoName ?xd_NoSample ?xd_NoText ?xd_NotApart ?xd_NoWatch ?xd_OutOfTimes ?xd_NoColumn ?xp_NoColumn ?xq_NoColumn ?xc_NoColumn ?xm_NoColumn ?xd_NotHalf ?xp_NotHalf ?xq_NotHalf ?xc_NotHalf ?xm_NotHalf ?xd_FourPointsError ?xs_NoColumn_NoColumn ?xs_NoColumn_NoName ?xs_NoColumn_NoSample ?xs_NoColumn_NoText ?xs_NoColumn_NotApart ?xs_NoColumn_NoWatch ?xs_NoColumn_OutOfTimes ?xs_NoColumn_NotHalf ?xs_NotHalf_NotHalf ?xs_NotHalf_NoName ?xs_NotHalf_NoSample ?xs_NotHalf_NoText ?xs_NotHalf_NotApart ?xs_NotHalf_NoWatch ?xs_NotHalf_OutOfTimes ?xs_NotHalf_NoColumn ?xs_NoColumn_FourPointsError ?xs_NotHalf_FourPointsError
    (case a_is_number => k_is)
    (case l_is_number => k_is)
    (case c_is_number => k_is)
    (case k_is_number => k_is)
    (case a_times_of => k_is)
    (case l_times_of => k_is)
    (case c_times_of => k_is)
    (case k_times_of => k_is)
    (case a_widened => k_is)
    (case l_widened => k_is)
    (case c_widened => k_is)
    (case k_widened => k_is)
    (case a_narrowed => k_is)
    (case l_narrowed => k_is)
    (case c_narrowed => k_is)
    (case k_narrowed => k_is)
    (case a_law_nth => k_is)
    (case l_law_nth => k_is)
    (case c_law_nth => k_is)
    (case k_law_nth => k_is)
    (case a_law_pot => k_is)
    (case l_law_pot => k_is)
    (case c_law_pot => k_is)
    (case k_law_pot => k_is)
    (case a_law_take => k_is)
    (case l_law_take => k_is)
    (case c_law_take => k_is)
    (case k_law_take => k_is)
    (case a_law_window => k_is)
    (case l_law_window => k_is)
    (case c_law_window => k_is)
    (case k_law_window => k_is)
    (case a_law_wrong => k_is)
    (case l_law_wrong => k_is)
    (case c_law_wrong => k_is)
    (case k_law_wrong => k_is)
    (case a_law_is_another => k_is)
    (case l_law_is_another => k_is)
    (case c_law_is_another => k_is)
    (case k_law_is_another => k_is)
    (case a_law_no_column => k_is)
    (case l_law_no_column => k_is)
    (case c_law_no_column => k_is)
    (case k_law_no_column => k_is)
    (case a_law_no_half => k_is)
    (case l_law_no_half => k_is)
    (case c_law_no_half => k_is)
    (case k_law_no_half => k_is)
    (case a_law => k_is)
    (case l_law => k_is)
    (case c_law => k_is)
    (case k_law => k_is)
    (case z_isinstance => k_is)
    (case z_len => k_is)
    (case z_range => k_is)
    (case z_int => k_is)
    (case z_bool => k_is)
    (case z_str => k_is)
    (case z_tuple => k_is)
    (case z_list => k_is)
    (case z_set => k_is)
    (case z_dict => k_is)
    (case z_abs => k_is)
    (case z_all => k_is)
    (case z_any => k_is)
    (case z_max => k_is)
    (case z_min => k_is)
    (case z_sum => k_is)
    (case z_sorted => k_is)
    (case z_zip => k_is)
    (case z_divmod => k_is)
    (case z_repr => k_is)
    (case z_reversed => k_is)
    (case z_ValueError => k_is)
    (case xg_FourPointsError => k_is)
    (case xe_FourPointsError => k_exc)
    (case xk_FourPointsError => k_is)
    (case xb_FourPointsError => k_is)
    (case xt_FourPointsError => k_is)
    (case xg_NoText => k_is)
    (case xe_NoText => k_exc)
    (case xk_NoText => k_is)
    (case xb_NoText => k_is)
    (case xt_NoText => k_is)
    (case xg_NoColumn => k_is)
    (case xe_NoColumn => k_exc)
    (case xk_NoColumn => k_is)
    (case xb_NoColumn => k_is)
    (case xt_NoColumn => k_is)
    (case xg_NotHalf => k_is)
    (case xe_NotHalf => k_exc)
    (case xk_NotHalf => k_is)
    (case xb_NotHalf => k_is)
    (case xt_NotHalf => k_is)
    (case xg_OutOfTimes => k_is)
    (case xe_OutOfTimes => k_exc)
    (case xk_OutOfTimes => k_is)
    (case xb_OutOfTimes => k_is)
    (case xt_OutOfTimes => k_is)
    (case xg_NoSample => k_is)
    (case xe_NoSample => k_exc)
    (case xk_NoSample => k_is)
    (case xb_NoSample => k_is)
    (case xt_NoSample => k_is)
    (case xg_NoWatch => k_is)
    (case xe_NoWatch => k_exc)
    (case xk_NoWatch => k_is)
    (case xb_NoWatch => k_is)
    (case xt_NoWatch => k_is)
    (case xg_NoName => k_is)
    (case xe_NoName => k_exc)
    (case xk_NoName => k_is)
    (case xb_NoName => k_is)
    (case xt_NoName => k_is)
    (case xg_NotApart => k_is)
    (case xe_NotApart => k_exc)
    (case xk_NotApart => k_is)
    (case xb_NotApart => k_is)
    (case xt_NotApart => k_is)
    (case xhn => k_is)
    (case xht => k_is)
    (case xd_NoName => k_is)
    (case xd_NoSample => k_is)
    (case xd_NoText => k_is)
    (case xd_NotApart => k_is)
    (case xd_NoWatch => k_is)
    (case xd_OutOfTimes => k_is)
    (case xd_NoColumn => k_is)
    (case xp_NoColumn => k_is)
    (case xq_NoColumn => k_is)
    (case xc_NoColumn => k_is)
    (case xm_NoColumn => k_is)
    (case xd_NotHalf => k_is)
    (case xp_NotHalf => k_is)
    (case xq_NotHalf => k_is)
    (case xc_NotHalf => k_is)
    (case xm_NotHalf => k_is)
    (case xd_FourPointsError => k_is)
    (case xs_NoColumn_NoColumn => k_is)
    (case xs_NoColumn_NoName => k_is)
    (case xs_NoColumn_NoSample => k_is)
    (case xs_NoColumn_NoText => k_is)
    (case xs_NoColumn_NotApart => k_is)
    (case xs_NoColumn_NoWatch => k_is)
    (case xs_NoColumn_OutOfTimes => k_is)
    (case xs_NoColumn_NotHalf => k_is)
    (case xs_NotHalf_NotHalf => k_is)
    (case xs_NotHalf_NoName => k_is)
    (case xs_NotHalf_NoSample => k_is)
    (case xs_NotHalf_NoText => k_is)
    (case xs_NotHalf_NotApart => k_is)
    (case xs_NotHalf_NoWatch => k_is)
    (case xs_NotHalf_OutOfTimes => k_is)
    (case xs_NotHalf_NoColumn => k_is)
    (case xs_NoColumn_FourPointsError => k_is)
    (case xs_NotHalf_FourPointsError => k_is)
