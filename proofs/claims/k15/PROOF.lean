import PyProof.Rows.All
import Wide.All
import OpenK.AllK
import Wide.FinOn
import HandS.ForMost
import HandS.ForExc
import HandS.Wide
import HandS.EndBits
import HandS.IsInst
import HandS.TupLe
import HandS.TupAny
import HandS.Zip
import HandS.Flow
import HandS.Evl
import HandS.RevRange
import HandS.WideBits
import HandS.TryOnly
import HandS.Style
import HandS.SortInts
import HandS.More
import HandS.Comp
import HandS.Exc
import KE.GoesComp
import KE.GoesRaise
import HandS.Defaults
import HandS.MakeKw
import HandS.MakeKwOnly
import HandS.DictTup
import HandS.TupMul
import HandS.SortRule
import HandS.Finally
import PyProof.StrOps2
import KE.IntTextLaws
import HandS.ExcIs
import HandS.WordsExc
import HandS.DictEq
import HandS.Rev
import HandS.NoneIn
import PySem.Challenge.RW_fourpoints_k15_whole_texts_refused
set_option Elab.async false
set_option linter.all false
set_option maxRecDepth 100000
set_option maxHeartbeats 4000000
/-! my own base over HandS: defs of the text, heaps that keep, readings taken step by step -/
namespace Fp
open PySem PySem.Spec PyProof.Rows L2
abbrev St := L2.St

/-! ### defs -/
/-- a def of the top that stands at the module's name x -/
structure Def (K : PySem.W.Frag) (mg : Str → Option Value) (x : Str) (st : Stmt) (ps : List Str) : Prop where
  ex : ∃ f fd, Fun K x x st f fd ∧ mg x = some (.ref f) ∧ Binds K fd ps []
/-- .. and its promise -/
structure Fn (P : Program) (w : World) (K : PySem.W.Frag) (mg : Str → Option Value) (base : Heap) (k : Nat) (x : Str) (ps : List Str) (sp : Sp) : Prop where
  ex : ∃ f fd, mg x = some (.ref f) ∧ PySem.W.keepIn K (.ref f) = true ∧ Binds K fd ps [] ∧ FnOk P w K mg base (L2.CX P w) k f fd ps sp

section
variable {P : Program} {w : World} {K : PySem.W.Frag} {mg : Str → Option Value} {base : Heap}
theorem fn_up {k : Nat} {f : Addr} {fd : FuncData} {ps : List Str} {sp : Sp} (F : FnOk P w K mg base CX0 k f fd ps sp) : FnOk P w K mg base (L2.CX P w) k f fd ps sp :=
  ⟨F.len, fun A outer s H args us vs Q E hr he hb hv hs => codeAny_mono (F.run A outer s H args us vs Q E hr he hb hv hs) fun r s' hq => by
    cases r with
    | error e => exact False.elim hq
    | ok fl => cases fl <;> exact hq⟩
/-- a def that lets nothing out -/
theorem Def.ok {x : Str} {st : Stmt} {N ps : List Str} {k : Nat} {sp : Sp} (D : Def K mg x st ps) (S : FnScope N ps (defScope st)) (len : ∀ vs H Q E, sp vs H Q E → vs.length = ps.length)
    (hbody : ∀ (f : Addr) (cdv : Value) (A : Around) (outer : List Env) (s : Shared) (H : Hp) (vs : List V) (Q : VK) (E : XK), Room k (A.deeper (envOfC x (defScope st) s.heap.objs.size f cdv)) → sp vs H Q E →
      ∃ t, PSs (cxOf CX0 P w K mg base N x (defScope st) f cdv A outer s H E).nox (defBody st) t ∧ t { nx := fun _ H' => Q .non H', rt := Q } (start N vs) H) : Fn P w K mg base (k + 1) x ps sp := by
  obtain ⟨f, fd, F, hm, hb⟩ := D.ex
  exact ⟨f, fd, hm, F.kp, hb, fn_up (F.ok S len (hbody f))⟩
/-- a def that may raise -/
theorem Def.okX {x : Str} {st : Stmt} {N ps : List Str} {k : Nat} {sp : Sp} (D : Def K mg x st ps) (S : FnScope N ps (defScope st)) (len : ∀ vs H Q E, sp vs H Q E → vs.length = ps.length)
    (hbody : ∀ (f : Addr) (cdv : Value) (A : Around) (outer : List Env) (s : Shared) (H : Hp) (vs : List V) (Q : VK) (E : XK), Room k (A.deeper (envOfC x (defScope st) s.heap.objs.size f cdv)) → sp vs H Q E →
      ∃ t, PSs (cxOf (L2.CX P w) P w K mg base N x (defScope st) f cdv A outer s H E) (defBody st) t ∧ t { nx := fun _ H' => Q .non H', rt := Q } (start N vs) H) : Fn P w K mg base (k + 1) x ps sp := by
  obtain ⟨f, fd, F, hm, hb⟩ := D.ex
  exact ⟨f, fd, hm, F.kp, hb, F.okX S len (hbody f)⟩
theorem def_mk {x : Str} {st : Stmt} {f : Addr} {fd : FuncData} {ps : List Str} (F : Fun K x x st f fd) (hm : mg x = some (.ref f)) (hb : Binds K fd ps []) : Def K mg x st ps := ⟨f, fd, F, hm, hb⟩
theorem Fn.up {k j : Nat} {x : Str} {ps : List Str} {sp : Sp} (F : Fn P w K mg base k x ps sp) (h : k ≤ j) : Fn P w K mg base j x ps sp := by
  obtain ⟨f, fd, a, b, c, d⟩ := F.ex
  exact ⟨f, fd, a, b, c, d.mono h⟩
theorem Fn.imp {k : Nat} {x : Str} {ps : List Str} {sp sp' : Sp} (F : Fn P w K mg base k x ps sp) (h : ∀ vs H Q E, sp' vs H Q E → sp vs H Q E) : Fn P w K mg base k x ps sp' := by
  obtain ⟨f, fd, a, b, c, d⟩ := F.ex
  exact ⟨f, fd, a, b, c, d.imp h⟩
end

/-! ### a call of such a def, where nothing is let out -/
def tFn (sp : Sp) (E : XK) (t : TA) : TE := fun σ H Q => t σ H fun vs H1 => sp vs H1 Q E
section
variable {X : Cx} {k j : Nat} {ps : List Str} {sp : Sp} {E : XK} {x : Str} {p pos : Pos} {e : Expr} {es : List Expr} {t : TA}
theorem pe_fnE (F : Fn X.prog X.w X.K X.mg X.base k x ps sp) (hr : Room j X.A) (hk : k ≤ j) (hg : Gl X x) (hx : Passes (L2.CX X.prog X.w) X E) (ha : PA X (e :: es) t)
    (hdb : (x == ("__debug__" : Str)) = false := by decide) (he : starEach (e :: es) X.env = (false, eval e X.env) :: starEach es X.env := by rfl) (hpl : (backTo pos (starEach es X.env)).any (·.1) = false := by rfl) :
    PE X (.Call (.Name x p) (e :: es) [] pos) (tFn sp E t) := by
  obtain ⟨f, fd, hm, hkp, hb, G⟩ := F.ex
  have h := pe_call (dvs := []) (p := p) (pos := pos) (G.mono hk) hr hg hm hkp hb .nil hx ha hdb he hpl
  have e1 : tCall sp [] E t = tFn sp E t := by
    funext σ H Q
    show t σ H (fun vs H1 => sp (vs ++ []) H1 Q E) = t σ H (fun vs H1 => sp vs H1 Q E)
    simp only [List.append_nil]
  rw [e1] at h
  exact h
theorem pe_fn0E (F : Fn X.prog X.w X.K X.mg X.base k x ps sp) (hr : Room j X.A) (hk : k ≤ j) (hg : Gl X x) (hx : Passes (L2.CX X.prog X.w) X E)
    (hdb : (x == ("__debug__" : Str)) = false := by decide) :
    PE X (.Call (.Name x p) [] [] pos) (tFn sp E tNil) := by
  obtain ⟨f, fd, hm, hkp, hb, G⟩ := F.ex
  exact pe_call0 (dvs := []) (p := p) (pos := pos) (G.mono hk) hr hg hm hkp hb .nil hx hdb
theorem pe_fn (F : Fn X.prog X.w X.K X.mg X.base k x ps sp) (hr : Room j X.A) (ha : PA X (e :: es) t) (hk : k ≤ j := by decide) (hg : Gl X x := by rfl)
    (hdb : (x == ("__debug__" : Str)) = false := by decide) (he : starEach (e :: es) X.env = (false, eval e X.env) :: starEach es X.env := by rfl) (hpl : (backTo pos (starEach es X.env)).any (·.1) = false := by rfl) :
    PE X (.Call (.Name x p) (e :: es) [] pos) (tFn sp E0 t) := pe_fnE F hr hk hg passL ha hdb he hpl
theorem pe_fn0 (F : Fn X.prog X.w X.K X.mg X.base k x ps sp) (hr : Room j X.A) (hk : k ≤ j := by decide) (hg : Gl X x := by rfl)
    (hdb : (x == ("__debug__" : Str)) = false := by decide) : PE X (.Call (.Name x p) [] [] pos) (tFn sp E0 tNil) := pe_fn0E F hr hk hg passL hdb
/-- f(..) whose exceptions are wished for at the slots (within a try, or out of this def) -/
def tFnS (sp : Sp) (E : St → XK) (t : TA) : TE := fun σ H Q => t σ H fun vs H1 => sp vs H1 Q (E σ)
theorem pe_fnS {E : St → XK} (F : Fn X.prog X.w X.K X.mg X.base k x ps sp) (hr : Room j X.A) (hk : k ≤ j) (hg : Gl X x) (hx : ∀ σ, PassesAt (L2.CX X.prog X.w) X σ (E σ)) (ha : PA X (e :: es) t)
    (hdb : (x == ("__debug__" : Str)) = false := by decide) (he : starEach (e :: es) X.env = (false, eval e X.env) :: starEach es X.env := by rfl) (hpl : (backTo pos (starEach es X.env)).any (·.1) = false := by rfl) :
    PE X (.Call (.Name x p) (e :: es) [] pos) (tFnS sp E t) := by
  obtain ⟨f, fd, hm, hkp, hb, G⟩ := F.ex
  exact pe_callS (p := p) (pos := pos) (G.mono hk) hr hg hm hkp hb hx ha hdb he hpl
end

/-! ### what of the built-ins no name of the module hides -/
structure Blt (mg : Str → Option Value) : Prop where
  isinstance : mg "isinstance" = none
  len : mg "len" = none
  range : mg "range" = none
  int : mg "int" = none
  bool : mg "bool" = none
  str : mg "str" = none
  tuple : mg "tuple" = none
  list : mg "list" = none
  set : mg "set" = none
  dict : mg "dict" = none
  abs : mg "abs" = none
  all : mg "all" = none
  any : mg "any" = none
  max : mg "max" = none
  min : mg "min" = none
  sum : mg "sum" = none
  sorted : mg "sorted" = none
  zip : mg "zip" = none
  divmod : mg "divmod" = none
  repr : mg "repr" = none
  reversed : mg "reversed" = none
  ValueError : mg "ValueError" = none

/-! ### heaps: all stays but what F names -/
def Keep (F : Addr → Prop) (H H' : Hp) : Prop := ∀ b o, H b = some o → ¬ F b → H' b = some o
abbrev No : Addr → Prop := fun _ => False
abbrev At (p : Addr) : Addr → Prop := fun b => b = p
theorem Keep.refl {F : Addr → Prop} (H : Hp) : Keep F H H := fun _ _ h _ => h
theorem Keep.trans {F : Addr → Prop} {H H1 H2 : Hp} (a : Keep F H H1) (b : Keep F H1 H2) : Keep F H H2 := fun c o h n => b c o (a c o h n) n
theorem Keep.mono {F G : Addr → Prop} {H H' : Hp} (a : Keep F H H') (h : ∀ b, F b → G b) : Keep G H H' := fun c o e n => a c o e fun z => n (h c z)
theorem Keep.of_same {F : Addr → Prop} {H H' : Hp} (a : Same H H') : Keep F H H' := fun c o e _ => a c o e
theorem Keep.same {H H' : Hp} (a : Keep No H H') : Same H H' := fun c o e => a c o e fun z => z
theorem Keep.new {F : Addr → Prop} {H : Hp} {p : Addr} {o : HO} (h : H p = none) : Keep F H (upd H p o) := fun b u e _ => by rw [upd_ne (ne_of_none e h)]; exact e
theorem Keep.at_ {H : Hp} {p : Addr} {o : HO} : Keep (At p) H (upd H p o) := fun b u e n => by rw [upd_ne n]; exact e
/-- what was free at the start may change -/
theorem Keep.free {F : Addr → Prop} {H H' : Hp} {p : Addr} {o : HO} (a : Keep F H H') (h : H p = none) : Keep F H (upd H' p o) := fun b u e n => by
  rw [upd_ne (ne_of_none e h)]; exact a b u e n
theorem Keep.put {F : Addr → Prop} {H H' : Hp} {p : Addr} {o : HO} (a : Keep F H H') (h : F p) : Keep F H (upd H' p o) := fun b u e n => by
  rw [upd_ne fun z => n (by rw [z]; exact h)]; exact a b u e n
theorem Keep.back {F : Addr → Prop} {H H' : Hp} (a : Keep F H H') {p : Addr} (h : H' p = none) (n : ¬ F p) : H p = none := by
  cases q : H p with
  | none => rfl
  | some o => rw [a p o q n] at h; cases h
theorem Keep.app {F : Addr → Prop} {H H' : Hp} {a : Addr} {o : HO} (k : Keep F H H') (e : H a = some o) (n : ¬ F a) : H' a = some o := k a o e n
theorem same_app {H H' : Hp} {a : Addr} {o : HO} (k : Same H H') (e : H a = some o) : H' a = some o := k a o e
/-- the tuples, and what is locked, stay, whatever else is done -/
structure TExt (H H' : Hp) : Prop where
  t : ∀ a xs, Rd H a (.tup xs) → Rd H' a (.tup xs)
  f : ∀ a o u, H a = some (.frz o u) → H' a = some (.frz o u)
theorem Keep.text {F : Addr → Prop} {H H' : Hp} (a : Keep F H H') (h : ∀ b, F b → Mut (H b)) : TExt H H' := by
  have nt : ∀ b xs, H b = some (.tup xs) → ¬ F b := fun b xs e z => by have m := h b z; rw [e] at m; exact m
  have nf : ∀ b o u, H b = some (.frz o u) → ¬ F b := fun b o u e z => by have m := h b z; rw [e] at m; exact m
  refine ⟨fun b xs r => ?_, fun b o u e => a b _ e (nf b o u e)⟩
  rcases r with r | ⟨o, r⟩
  · exact .inl (a b _ r (nt b xs r))
  · exact .inr ⟨o, a b _ r (nf b o _ r)⟩
theorem TExt.refl (H : Hp) : TExt H H := ⟨fun _ _ h => h, fun _ _ _ h => h⟩
theorem TExt.trans {H H1 H2 : Hp} (a : TExt H H1) (b : TExt H1 H2) : TExt H H2 := ⟨fun c xs h => b.t c xs (a.t c xs h), fun c o u h => b.f c o u (a.f c o u h)⟩
theorem TExt.of_same {H H' : Hp} (a : Same H H') : TExt H H' := ⟨fun b xs r => by
  rcases r with r | ⟨o, r⟩
  · exact .inl (a b _ r)
  · exact .inr ⟨o, a b _ r⟩, fun b o u e => a b _ e⟩
theorem TExt.lst {H H' : Hp} {p : Addr} {ys : List V} (k : Keep (At p) H H') (h : H p = some (.lst ys)) : TExt H H' := k.text fun b e => by rw [show b = p from e, h]; trivial
theorem SqT.text {K : PySem.W.Frag} {H H' : Hp} {a : Addr} {xs : List V} (e : TExt H H') (h : SqT K H a xs) : SqT K H' a xs := by
  rcases h with h | h
  · exact .inl (e.t a xs h)
  · exact .inr h
/-- the script: locked, or written -/
def Scr (K : PySem.W.Frag) (H : Hp) (a : Addr) (ns : List Int) : Prop := SqL K H a (ns.map V.int) ∧ ∀ H', TExt H H' → SqL K H' a (ns.map V.int)
theorem Scr.text {K : PySem.W.Frag} {H H' : Hp} {a : Addr} {ns : List Int} (h : Scr K H a ns) (e : TExt H H') : Scr K H' a ns := ⟨h.2 H' e, fun H2 e2 => h.2 H2 (e.trans e2)⟩
theorem scr_sql {K : PySem.W.Frag} {H H' : Hp} {a : Addr} {ns : List Int} (h : Scr K H a ns) (e : TExt H H') : SqL K H' a (ns.map V.int) := h.2 H' e
theorem Scr.of {K : PySem.W.Frag} {H : Hp} {a : Addr} {ns : List Int} (hO : Only H) (h : SqL K H a (ns.map V.int)) : Scr K H a ns := by
  refine ⟨h, fun H' e => ?_⟩
  rcases h with (h | ⟨o, h⟩) | h
  · rcases hO a with z | ⟨o, xs, z⟩
    · rw [z] at h; cases h
    · rw [z] at h; cases h
  · exact .inl (.inr ⟨o, e.f a o _ h⟩)
  · exact .inr h

/-! ### data: as L2.Dp tells; data without lists stays where tuples stay -/
mutual
def imm : PyData → Bool
  | .list _ => false
  | .dict _ => false
  | .tuple xs => immAll xs
  | _ => true
def immAll : List PyData → Bool
  | [] => true
  | x :: xs => imm x && immAll xs
end
section
variable {K : PySem.W.Frag} {H H' : Hp}
mutual
theorem Dp.text (e : TExt H H') : ∀ (d : PyData) (v : V), imm d = true → Dp K H v d → Dp K H' v d
  | .none, _, _, h => by cases h; exact .non
  | .bool b, _, _, h => by cases h; exact .bl b
  | .int i, _, _, h => by cases h; exact .int i
  | .str x, _, _, h => by cases h; exact .str x
  | .list _, _, hi, _ => by simp [imm] at hi
  | .dict _, _, hi, _ => by simp [imm] at hi
  | .tuple ds, _, hi, h => by
    cases h with
    | tup hs ha => exact .tup (SqT.text e hs) (DpAll.text e ds _ (by simpa [imm] using hi) ha)
theorem DpAll.text (e : TExt H H') : ∀ (ds : List PyData) (vs : List V), immAll ds = true → DpAll K H vs ds → DpAll K H' vs ds
  | [], _, _, h => by cases h; exact .nil
  | d :: ds, _, hi, h => by
    have hi2 : imm d = true ∧ immAll ds = true := by simpa [immAll] using hi
    cases h with
    | cons h1 h2 => exact .cons (Dp.text e d _ hi2.1 h1) (DpAll.text e ds _ hi2.2 h2)
end
mutual
theorem Dp.same (e : Same H H') : ∀ (d : PyData) (v : V), Dp K H v d → Dp K H' v d
  | .none, _, h => by cases h; exact .non
  | .bool b, _, h => by cases h; exact .bl b
  | .int i, _, h => by cases h; exact .int i
  | .str x, _, h => by cases h; exact .str x
  | .list ds, _, h => by
    cases h with
    | lst hs ha => exact .lst (e.seq hs) (DpAll.same e ds _ ha)
  | .dict _, _, h => by cases h
  | .tuple ds, _, h => by
    cases h with
    | tup hs ha => exact .tup (SqT.text (TExt.of_same e) hs) (DpAll.same e ds _ ha)
theorem DpAll.same (e : Same H H') : ∀ (ds : List PyData) (vs : List V), DpAll K H vs ds → DpAll K H' vs ds
  | [], _, h => by cases h; exact .nil
  | d :: ds, _, h => by
    cases h with
    | cons h1 h2 => exact .cons (Dp.same e d _ h1) (DpAll.same e ds _ h2)
end
end
theorem immAll_map {α : Type} (f : α → PyData) (h : ∀ x, imm (f x) = true) : ∀ xs : List α, immAll (xs.map f) = true
  | [] => rfl
  | x :: xs => by simp [immAll, h x, immAll_map f h xs]

/-! ### readings, one step each: what is left is what follows -/
section
variable {K : PySem.W.Frag} {σ : St} {H : Hp} {Q : VK} {v x y : V} {ta tb tc te : TE} {r : R2} {t : TA} {tt uu : TT} {tu tw : TS} {nx bk ct : St → Hp → Prop} {rt : VK} {A B : Prop}
theorem r_var {i : Nat} (h : σ[i]? = some (some v)) (q : Q v H) : tVar i σ H Q := ⟨v, h, q⟩
theorem r_c (q : Q v H) : tC v σ H Q := q
theorem r_op (q : ta σ H fun x H1 => tb σ H1 fun y H2 => r x y H2 Q) : tOp r ta tb σ H Q := q
theorem r_un {u : V → Hp → VK → Prop} (q : ta σ H fun x H1 => u x H1 Q) : tUn u ta σ H Q := q
theorem r_I0 {g : Int → Int → V} {i j : Int} (q : Q (g i j) H) : rI0 g (.int i) (.int j) H Q := ⟨i, j, rfl, rfl, q⟩
theorem r_I {C : Int → Int → Prop} {g : Int → Int → V} {i j : Int} (hc : C i j) (q : Q (g i j) H) : rI C g (.int i) (.int j) H Q := ⟨i, j, rfl, rfl, hc, q⟩
theorem r_U {g : Int → V} {i : Int} (q : Q (g i) H) : rU g (.int i) H Q := ⟨i, rfl, q⟩
theorem r_eqi {i j : Int} (q : Q (.bl (decide (i = j))) H) : rEq (.int i) (.int j) H Q := ⟨rfl, by
  have e : decide (V.int i = V.int j) = decide (i = j) := by rw [Bool.eq_iff_iff]; simp
  rw [e]; exact q⟩
theorem r_nei {i j : Int} (q : Q (.bl (!decide (i = j))) H) : rNe (.int i) (.int j) H Q := ⟨rfl, by
  have e : decide (V.int i = V.int j) = decide (i = j) := by rw [Bool.eq_iff_iff]; simp
  rw [e]; exact q⟩
theorem r_cons {tr : TA} {Q : List V → Hp → Prop} (q : te σ H fun x H1 => tr σ H1 fun xs H2 => Q (x :: xs) H2) : tCons te tr σ H Q := q
theorem r_nil {Q : List V → Hp → Prop} (q : Q [] H) : tNil σ H Q := q
theorem r_fn {sp : Sp} {E : XK} (q : t σ H fun vs H1 => sp vs H1 Q E) : tFn sp E t σ H Q := q
theorem r_fnS {sp : Sp} {E : St → XK} (q : t σ H fun vs H1 => sp vs H1 Q (E σ)) : tFnS sp E t σ H Q := q
theorem r_CB {u : List V → Hp → VK → Prop} (q : t σ H fun vs H1 => u vs H1 Q) : tCB u t σ H Q := q
/-- a new object -/
def uNew (o : HO) (n : Nat) (H : Hp) (Q : VK) : Prop := n ≤ sizeLine ∧ ∀ p, H p = none → Q (.ref p) (upd H p o)
theorem r_tup (q : t σ H fun xs H1 => uNew (.tup xs) xs.length H1 Q) : tTup t σ H Q := q
theorem r_lst (q : t σ H fun xs H1 => uNew (.lst xs) xs.length H1 Q) : tLst t σ H Q := q
theorem r_new {o : HO} {n : Nat} (hn : n ≤ sizeLine) (q : ∀ p H', H p = none → Same H H' → H' p = some o → Q (.ref p) H') : uNew o n H Q :=
  ⟨hn, fun p hp => q p _ hp (Keep.same (Keep.new hp)) upd_same⟩
theorem sz_lit {n : Nat} (h : Nat.ble n 100000 = true) : n ≤ sizeLine := by
  rw [sizeLine_eq]
  exact Nat.le_trans (Nat.le_of_ble_eq_true h) (by decide)
theorem sz_le {n : Nat} (h : n ≤ 16777216) : n ≤ sizeLine := by rw [sizeLine_eq]; exact h
/-! rules with K by name -/
section
variable {X : Cx}
theorem opK (K : PySem.W.Frag) {f : Value → Value → Sem Value} {r : PySem.W.Frag → R2} (h : OpR X f (r X.K)) (hK : X.K = K := by rfl) : OpR X f (r K) := hK ▸ h
theorem ixK (K : PySem.W.Frag) {r : PySem.W.Frag → R2} (h : IxR X (r X.K)) (hK : X.K = K := by rfl) : IxR X (r K) := hK ▸ h
theorem slK (K : PySem.W.Frag) {r : PySem.W.Frag → V → Option Int → Option Int → Hp → VK → Prop} (h : SlR X (r X.K)) (hK : X.K = K := by rfl) : SlR X (r K) := hK ▸ h
theorem crK (K : PySem.W.Frag) {f : Value} {r : PySem.W.Frag → List V → Hp → VK → Prop} (h : CallR X f (r X.K)) (hK : X.K = K := by rfl) : CallR X f (r K) := hK ▸ h
variable {o e l tg value : Expr} {es : List Expr} {to te tl tv : TE} {t : TA} {ts : TGs} {name f : Str} {apos cpos pos pos' tpos : Pos} {T id : String} {r : V → List V → Hp → VK → Prop} {n k : Nat}
theorem piK_list (K : PySem.W.Frag) (hl : PE X l tl) (hK : X.K = K := by rfl) : PI X tg l (iList K tl) := hK ▸ pi_list hl
theorem piK_tup (K : PySem.W.Frag) (hl : PE X l tl) (hK : X.K = K := by rfl) : PI X tg l (iTup K tl) := hK ▸ pi_tup hl
/-- what is walked is a list or a tuple -/
def iSeq (K : PySem.W.Frag) (tl : TE) : TI := fun σ H R => iList K tl σ H R ∨ iTup K tl σ H R
theorem piK_seq (K : PySem.W.Frag) (hl : PE X l tl) (hK : X.K = K := by rfl) : PI X tg l (iSeq K tl) := by
  subst hK
  exact ⟨fun pins s σ H R I h => h.elim ((pi_list hl).run pins s σ H R I) ((pi_tup hl).run pins s σ H R I)⟩
theorem peK_revL (K : PySem.W.Frag) {kk : Nat} {p1 p2 p3 : Pos} (he : PE X e te) (hK : X.K = K := by rfl) : PE X (.Subscript e (.Slice none none (some (.UnaryOp .USub (.Constant (.int 1) kk p1) p2)) p3) pos) (tRevL K te) := hK ▸ pe_revL he
theorem piK_zip (K : PySem.W.Frag) {e2 : Expr} {kk : Nat} {elts : List Expr} {p : Pos} (hm : X.mg "zip" = none) (ha : PA X [e, e2] t) (hg : Gl X "zip" := by rfl)
    (hs : starEach [e, e2] X.env = (false, eval e X.env) :: starEach [e2] X.env := by rfl) (hpl : (backTo pos (starEach [e2] X.env)).any (·.1) = false := by rfl) (hK : X.K = K := by rfl) :
    PI X (.Tuple elts kk tpos) (.Call (.Name "zip" p) [e, e2] [] pos) (RZ.iZipA K t) := hK ▸ RZ.pi_zipA hg hm ha hs hpl
theorem pgK_tup (K : PySem.W.Frag) (hc : X.calm = true) (h : PGs X es ts) (hn : (assignEach es X.env).length = n := by rfl) (hst : (assignEach es X.env).findIdx? (·.1) = none := by rfl) (hK : X.K = K := by rfl) : PG X (.Tuple es k pos) (gTup K n ts) := hK ▸ pg_tup hc h hn hst
theorem pgK_lst (K : PySem.W.Frag) (hc : X.calm = true) (h : PGs X es ts) (hn : (assignEach es X.env).length = n := by rfl) (hst : (assignEach es X.env).findIdx? (·.1) = none := by rfl) (hK : X.K = K := by rfl) : PG X (.Tuple es k pos) (gLst K n ts) := hK ▸ pg_lst hc h hn hst
theorem peK_fld (K : PySem.W.Frag) (he : PE X e te) (hb : attributeBase e f X.env (eval e X.env) = eval e X.env := by rfl) (hK : X.K = K := by rfl) : PE X (.Attribute e f pos) (tFld K te f) := hK ▸ pe_fld he hb
theorem peK_bm0 (K : PySem.W.Frag) (pa : PlainAttrs T) (slot : Slot T name id) (hty : typeOf (.builtin id) = pure (.type "method_descriptor")) (hm : MtR X id r) (ho : PE X o to)
    (hbase : attributeBase o name X.env (eval o X.env) = eval o X.env := by rfl) (hline : (apos.endLine == cpos.line) = true := by rfl) (hK : X.K = K := by rfl) : PE X (.Call (.Attribute o name apos) [] [] cpos) (tBM0 K T r to) := hK ▸ pe_bm0 pa slot hty hm ho hbase hline
theorem peK_bm (K : PySem.W.Frag) (pa : PlainAttrs T) (slot : Slot T name id) (hty : typeOf (.builtin id) = pure (.type "method_descriptor")) (hm : MtR X id r) (ho : PE X o to) (ha : PA X (e :: es) t)
    (hbase : attributeBase o name X.env (eval o X.env) = eval o X.env := by rfl)
    (hfew : ((backTo cpos (starEach (e :: es) X.env)).all (fun x => !x.1) && (backToKw cpos (keywordEach [] X.env)).all (fun x => x.1.isSome)
      && decide ((e :: es).length + ([] : List Keyword).length + (if ([] : List Keyword).isEmpty then 0 else 1) < 30)) = true := by rfl)
    (hline : (apos.endLine == cpos.line) = true := by rfl) (hs : starEach (e :: es) X.env = (false, eval e X.env) :: starEach es X.env := by rfl) (hplain : (backTo cpos (starEach es X.env)).any (·.1) = false := by rfl) (hK : X.K = K := by rfl) :
    PE X (.Call (.Attribute o name apos) (e :: es) [] cpos) (tBM K T r to t) := hK ▸ pe_bm pa slot hty hm ho ha hbase hfew hline hs hplain
theorem psK_fld (K : PySem.W.Frag) (ha : PE X o to) (hv : PE X value tv) (hs : swapsWith value (some (.Attribute o f pos')) pos.line X.env = pure false := by rfl) (hK : X.K = K := by rfl) : PS X (.Assign [.Attribute o f pos'] value pos) (sFld K to tv f) := hK ▸ ps_fld ha hv hs
theorem psK_fldaug (K : PySem.W.Frag) {op : Operator} {rd : V → V → Hp → VK → Prop} (ha : PE X o to) (hv : PE X value tv) (hop : InOp X op rd) (hK : X.K = K := by rfl) : PS X (.AugAssign (.Attribute o f tpos) op value pos) (sFldAug K to tv rd f) := hK ▸ ps_fldaug ha hv hop
end
/-! tests -/
theorem r_test {Q : Bool → Hp → Prop} (q : te σ H fun x H' => ∃ k, x = .bl k ∧ Q k H') : tTest te σ H Q := q
theorem r_B {Q : Bool → Hp → Prop} (q : te σ H fun x H' => ∃ k, x = .bl k ∧ Q k H') : tB te σ H Q := q
theorem r_bl {b : Bool} {Q : Bool → Prop} (q : Q b) : ∃ k, V.bl b = .bl k ∧ Q k := ⟨b, rfl, q⟩
theorem r_and {Q : Bool → Hp → Prop} (q : tt σ H fun c H1 => if c = true then uu σ H1 Q else Q false H1) : tAnd tt uu σ H Q := q
theorem r_or {Q : Bool → Hp → Prop} (q : tt σ H fun c H1 => if c = true then Q true H1 else uu σ H1 Q) : tOr tt uu σ H Q := q
theorem r_yes {Q : Bool → Hp → Prop} (q : Q true H) : tYes σ H Q := q
theorem r_not {Q : Bool → Hp → Prop} (q : tt σ H fun c H1 => Q (!c) H1) : tNot tt σ H Q := q
theorem r_andV (q : ta σ H fun x H1 => ∃ c, x = .bl c ∧ if c = true then tb σ H1 Q else Q (.bl false) H1) : tAndV ta tb σ H Q := q
theorem r_orV (q : ta σ H fun x H1 => ∃ c, x = .bl c ∧ if c = true then Q (.bl true) H1 else tb σ H1 Q) : tOrV ta tb σ H Q := q
theorem r_notV (q : ta σ H fun x H1 => ∃ c, x = .bl c ∧ Q (.bl (!c)) H1) : tNotV ta σ H Q := q
theorem r_if (q : tt σ H fun c H1 => if c = true then ta σ H1 Q else tb σ H1 Q) : tIf tt ta tb σ H Q := q
theorem r_chain {r' : R2} (q : ta σ H fun x H1 => tb σ H1 fun y H2 => r x y H2 fun z H3 => ∃ k, z = .bl k ∧ (if k = true then tc σ H3 fun w' H4 => r' y w' H4 Q else Q (.bl false) H3)) : tChain r r' ta tb tc σ H Q := q
theorem i_T (q : A) : if true = true then A else B := by rw [if_pos rfl]; exact q
theorem i_F (q : B) : if false = true then A else B := by rw [if_neg Bool.false_ne_true]; exact q
theorem i_NT (q : B) : if (!true) = true then A else B := by rw [if_neg (by decide)]; exact q
theorem i_NF (q : A) : if (!false) = true then A else B := by rw [if_pos (by decide)]; exact q
theorem i_pos {c : Prop} [Decidable c] (h : c) (q : A) : if decide c = true then A else B := by rw [if_pos (decide_eq_true h)]; exact q
theorem i_neg {c : Prop} [Decidable c] (h : ¬ c) (q : B) : if decide c = true then A else B := by rw [if_neg (by simpa using h)]; exact q
theorem i_npos {c : Prop} [Decidable c] (h : ¬ c) (q : A) : if (!decide c) = true then A else B := by rw [if_pos (by simpa using h)]; exact q
theorem i_nneg {c : Prop} [Decidable c] (h : c) (q : B) : if (!decide c) = true then A else B := by rw [if_neg (by simpa using h)]; exact q
theorem i_cases {c : Prop} [Decidable c] (p : c → A) (n : ¬ c → B) : if decide c = true then A else B := by
  by_cases h : c
  · exact i_pos h (p h)
  · exact i_neg h (n h)
theorem i_ncases {c : Prop} [Decidable c] (p : ¬ c → A) (n : c → B) : if (!decide c) = true then A else B := by
  by_cases h : c
  · exact i_nneg h (n h)
  · exact i_npos h (p h)
theorem i_bool {b : Bool} (p : b = true → A) (n : b = false → B) : if b = true then A else B := by
  cases b with
  | true => exact i_T (p rfl)
  | false => exact i_F (n rfl)
/-- two at once -/
def uPar (i j : Nat) (vs : List V) (σ : St) (H : Hp) (nx : St → Hp → Prop) : Prop := ∃ v w, vs = [v, w] ∧ nx ((σ.set i (some v)).set j (some w)) H
/-! statements -/
theorem r_next (q : nx σ H) : tNext ⟨nx, rt, bk, ct⟩ σ H := q
theorem r_brk (q : bk σ H) : tBreak ⟨nx, rt, bk, ct⟩ σ H := q
theorem r_cont (q : ct σ H) : tCont ⟨nx, rt, bk, ct⟩ σ H := q
theorem r_seq (q : tu ⟨tw ⟨nx, rt, bk, ct⟩, rt, bk, ct⟩ σ H) : tSeq tu tw ⟨nx, rt, bk, ct⟩ σ H := q
theorem r_asg {i : Nat} (q : te σ H fun v H1 => nx (σ.set i (some v)) H1) : tAsg te (gName i) ⟨nx, rt, bk, ct⟩ σ H := q
theorem r_asgG {g : TG} (q : te σ H fun v H1 => g v σ H1 nx) : tAsg te g ⟨nx, rt, bk, ct⟩ σ H := q
theorem r_aug {i : Nat} {x : V} {ti : TIp} (h : σ[i]? = some (some x)) (q : te σ H fun y H1 => ti x y H1 fun z H2 => nx (σ.set i (some z)) H2) : tAug i te ti ⟨nx, rt, bk, ct⟩ σ H := ⟨x, h, q⟩
theorem r_ipI {g : Int → Int → Int} {i j : Int} (q : Q (.int (g i j)) H) : ipI g (.int i) (.int j) H Q := ⟨i, j, rfl, rfl, q⟩
theorem r_par {i j : Nat} (q : t σ H fun vs H1 => uPar i j vs σ H1 nx) : tPar i j t ⟨nx, rt, bk, ct⟩ σ H := q
theorem r_par2 {i j : Nat} {R : St → Hp → Prop} (q : R ((σ.set i (some x)).set j (some y)) H) : uPar i j [x, y] σ H R := ⟨x, y, rfl, q⟩
theorem r_drop (q : te σ H fun _ H1 => nx σ H1) : tDrop te ⟨nx, rt, bk, ct⟩ σ H := q
theorem r_ret (q : te σ H rt) : tRet te ⟨nx, rt, bk, ct⟩ σ H := q
theorem r_retN (q : rt .non H) : tRetN ⟨nx, rt, bk, ct⟩ σ H := q
theorem r_ifS (q : tt σ H fun b H1 => if b = true then tu ⟨nx, rt, bk, ct⟩ σ H1 else tw ⟨nx, rt, bk, ct⟩ σ H1) : tIfS tt tu tw ⟨nx, rt, bk, ct⟩ σ H := q
theorem r_start {tu : TS} {D : Ends} {N : List Str} {vs : List V} {σ' : St} (e : start N vs = σ') (q : tu D σ' H) : tu D (start N vs) H := by rw [e]; exact q
theorem r_set {i : Nat} {σ' : St} {P : St → Prop} (e : σ.set i (some v) = σ') (q : P σ') : P (σ.set i (some v)) := by rw [e]; exact q
end

/-! ### numbers of any size -/
theorem intBits_small {i : Int} {n : Nat} (h : i.natAbs < 2 ^ n) : Builtin.Int.intBits i ≤ n := by
  unfold Builtin.Int.intBits
  split
  · omega
  · rename_i h0
    have h1 : i.natAbs ≠ 0 := by simpa using h0
    have := (Nat.log2_lt h1).mpr h
    omega
theorem mul_l {i j : Int} (h1 : -(2 ^ 64) < i) (h2 : i < 2 ^ 64) : IntMulOk i j := .of_left (intBits_le_64 h1 h2)
theorem mul_r {i j : Int} (h1 : -(2 ^ 64) < j) (h2 : j < 2 ^ 64) : IntMulOk i j := .of_right (intBits_le_64 h1 h2)
theorem mul_b {i j : Int} {n m : Nat} (h1 : i.natAbs < 2 ^ n) (h2 : j.natAbs < 2 ^ m) (hn : n ≤ 1048576 := by decide) (hm : m ≤ 1048576 := by decide) : IntMulOk i j :=
  .of_bits (Nat.le_trans (intBits_small h1) (Nat.le_trans hn (by decide))) (Nat.le_trans (intBits_small h2) (Nat.le_trans hm (by decide)))
theorem div_b {i j : Int} {n : Nat} (h0 : 0 < j) (h : j.natAbs < 2 ^ n) (hn : n ≤ 9000 := by decide) (h1 : 0 < n := by decide) : CDivW i j := wide_div h0 h h1 hn
section
variable {X : Cx}
theorem op_mulY : OpR X (binaryOp .Mult) (rI IntMulOk fun i j => .int (i * j)) := opI fun _ _ _ _ _ _ _ hc q => mul_int q hc
theorem pe_powC {i j z : Int} {a b : Nat} {p1 p2 pos : Pos} (h : 0 ≤ j ∧ j ≤ 1000000 ∧ i.natAbs < 2 ^ 64) (e : i ^ j.toNat = z) :
    PE X (.BinOp (.Constant (.int i) a p1) .Pow (.Constant (.int j) b p2) pos) (tC (.int z)) := by
  have h1 : PE X (.BinOp (.Constant (.int i) a p1) .Pow (.Constant (.int j) b p2) pos) (tOp (rI CPow fun i j => .int (i ^ j.toNat)) (tC (.int i)) (tC (.int j))) := pe_op op_pow pe_int pe_int
  exact ⟨fun pins s σ H Q I q => h1.run pins s σ H Q I ⟨i, j, rfl, rfl, h, by
    show Q (.int (i ^ j.toNat)) H
    rw [e]; exact q⟩⟩
/-! ### built-ins by names of mine, that steps may see them -/
def uInt1 : List V → Hp → VK → Prop := fun xs H Q => (∃ i, xs = [.int i] ∧ Q (.int i) H) ∨ ∃ k, xs = [.bl k] ∧ Q (.int (if k then 1 else 0)) H
theorem c_int1 : CallR X (.type "int") uInt1 := call_int1
def uLen (K : PySem.W.Frag) : List V → Hp → VK → Prop := fun xs H Q => ∃ x n, xs = [x] ∧ LenV K x H n ∧ Q (.int n) H
theorem c_len : CallR X (.builtin "len") (uLen X.K) := call_len
def uAbs : List V → Hp → VK → Prop := fun xs H Q => ∃ i, xs = [.int i] ∧ Q (.int (if i < 0 then -i else i)) H
theorem c_abs : CallR X (.builtin "abs") uAbs := call_abs
def uMax2 : List V → Hp → VK → Prop := fun xs H Q => ∃ i j, xs = [.int i, .int j] ∧ Q (.int (if j > i then j else i)) H
theorem c_max2 (hc : X.calm = true) : CallR X (.builtin "max") uMax2 := call_max2 hc
def uMin2 : List V → Hp → VK → Prop := fun xs H Q => ∃ i j, xs = [.int i, .int j] ∧ Q (.int (if j < i then j else i)) H
theorem c_min2 (hc : X.calm = true) : CallR X (.builtin "min") uMin2 := call_min2 hc
def uStr : List V → Hp → VK → Prop := fun xs H Q => ∃ i, xs = [.int i] ∧ i.natAbs.log2 < 1920 ∧ Q (.str (toString i)) H
theorem c_str : CallR X (.type "str") uStr := call_str_int
def uTuple (K : PySem.W.Frag) : List V → Hp → VK → Prop := fun xs H Q => ∃ p ys, xs = [.ref p] ∧ ((SqL K H p ys ∧ ∀ l, H l = none → Q (.ref l) (upd H l (.tup ys))) ∨ (SqT K H p ys ∧ Q (.ref p) H))
theorem c_tuple : CallR X (.type "tuple") (uTuple X.K) := call_tuple_of
def uList (K : PySem.W.Frag) : List V → Hp → VK → Prop := fun xs H Q => ∃ p ys, xs = [.ref p] ∧ (SqL K H p ys ∨ SqT K H p ys) ∧ ∀ l, H l = none → Q (.ref l) (upd H l (.lst ys))
theorem c_list : CallR X (.type "list") (uList X.K) := call_list_of
def uIsB : R2 := fun x y H Q => ∃ a b, x = .bl a ∧ y = .bl b ∧ Q (.bl (decide (a = b))) H
theorem o_isB : OpR X (compareOp .Is) uIsB := op_is_bl
def uNotB : R2 := fun x y H Q => ∃ a b, x = .bl a ∧ y = .bl b ∧ Q (.bl (!decide (a = b))) H
theorem o_notB : OpR X (compareOp .IsNot) uNotB := op_isnot_bl
def uIsN : R2 := fun x y H Q => y = .non ∧ Q (.bl (decide (x = .non))) H
theorem o_isN : OpR X (compareOp .Is) uIsN := op_isN
def uNotN : R2 := fun x y H Q => y = .non ∧ Q (.bl (!decide (x = .non))) H
theorem o_notN : OpR X (compareOp .IsNot) uNotN := op_notN
/-- == of anything: scalars, data -/
def uEq (K : PySem.W.Frag) : R2 := fun x y H Q => rEq x y H Q ∨ rEqD K x y H Q
theorem o_eq (hu : X.A.units + 64 < cLine) : OpR X (compareOp .Eq) (uEq X.K) := op_eq.or (op_eqD hu)
def uNe (K : PySem.W.Frag) : R2 := fun x y H Q => rNe x y H Q ∨ rNeD K x y H Q
theorem o_ne (hu : X.A.units + 64 < cLine) : OpR X (compareOp .NotEq) (uNe X.K) := op_ne.or (op_neD hu)
end
section
variable {K : PySem.W.Frag} {σ : St} {H : Hp} {Q : VK} {v x y : V} {i j : Int} {a p : Addr} {xs : List V}
theorem r_int_i (q : Q (.int i) H) : uInt1 [.int i] H Q := .inl ⟨i, rfl, q⟩
theorem r_int_b {k : Bool} (q : Q (.int (if k = true then 1 else 0)) H) : uInt1 [.bl k] H Q := .inr ⟨k, rfl, q⟩
theorem r_len_l {n : Nat} (h : SqL K H a xs) (e : xs.length = n) (q : Q (.int n) H) : uLen K [.ref a] H Q := ⟨_, _, rfl, .inl ⟨xs, h, e.symm⟩, q⟩
theorem r_len_t {n : Nat} (h : SqT K H a xs) (e : xs.length = n) (q : Q (.int n) H) : uLen K [.ref a] H Q := ⟨_, _, rfl, .inr ⟨xs, h, e.symm⟩, q⟩
theorem r_len_s {z : Str} (h : z.length ≤ sizeLine) (q : Q (.int z.length) H) : uLen K [.str z] H Q := ⟨_, _, rfl, ⟨h, rfl⟩, q⟩
theorem r_abs (q : Q (.int (if i < 0 then -i else i)) H) : uAbs [.int i] H Q := ⟨i, rfl, q⟩
theorem r_max2 (q : Q (.int (if j > i then j else i)) H) : uMax2 [.int i, .int j] H Q := ⟨i, j, rfl, q⟩
theorem r_min2 (q : Q (.int (if j < i then j else i)) H) : uMin2 [.int i, .int j] H Q := ⟨i, j, rfl, q⟩
theorem r_tuple_l (h : SqL K H p xs) (q : ∀ l H', H l = none → Same H H' → H' l = some (.tup xs) → Q (.ref l) H') : uTuple K [.ref p] H Q := ⟨p, xs, rfl, .inl ⟨h, fun l hl => q l _ hl (Keep.same (Keep.new hl)) upd_same⟩⟩
theorem r_tuple_t (h : SqT K H p xs) (q : Q (.ref p) H) : uTuple K [.ref p] H Q := ⟨p, xs, rfl, .inr ⟨h, q⟩⟩
theorem r_list_l (h : SqL K H p xs) (q : ∀ l H', H l = none → Same H H' → H' l = some (.lst xs) → Q (.ref l) H') : uList K [.ref p] H Q := ⟨p, xs, rfl, .inl h, fun l hl => q l _ hl (Keep.same (Keep.new hl)) upd_same⟩
theorem r_list_t (h : SqT K H p xs) (q : ∀ l H', H l = none → Same H H' → H' l = some (.lst xs) → Q (.ref l) H') : uList K [.ref p] H Q := ⟨p, xs, rfl, .inr h, fun l hl => q l _ hl (Keep.same (Keep.new hl)) upd_same⟩
theorem r_isB {b c : Bool} (q : Q (.bl (decide (b = c))) H) : uIsB (.bl b) (.bl c) H Q := ⟨b, c, rfl, rfl, q⟩
theorem r_notB {b c : Bool} (q : Q (.bl (!decide (b = c))) H) : uNotB (.bl b) (.bl c) H Q := ⟨b, c, rfl, rfl, q⟩
theorem r_isN_n (q : Q (.bl true) H) : uIsN .non .non H Q := ⟨rfl, q⟩
theorem r_isN_i (q : Q (.bl false) H) : uIsN (.int i) .non H Q := ⟨rfl, q⟩
theorem r_isN_r (q : Q (.bl false) H) : uIsN (.ref a) .non H Q := ⟨rfl, q⟩
theorem r_isN_s {z : Str} (q : Q (.bl false) H) : uIsN (.str z) .non H Q := ⟨rfl, q⟩
theorem r_notN_n (q : Q (.bl false) H) : uNotN .non .non H Q := ⟨rfl, q⟩
theorem r_notN_i (q : Q (.bl true) H) : uNotN (.int i) .non H Q := ⟨rfl, q⟩
theorem r_notN_r (q : Q (.bl true) H) : uNotN (.ref a) .non H Q := ⟨rfl, q⟩
theorem r_notN_s {z : Str} (q : Q (.bl true) H) : uNotN (.str z) .non H Q := ⟨rfl, q⟩
theorem r_isN {k : Bool} (e : decide (x = V.non) = k) (q : Q (.bl k) H) : uIsN x .non H Q := ⟨rfl, by rw [e]; exact q⟩
theorem r_notN {k : Bool} (e : (!decide (x = V.non)) = k) (q : Q (.bl k) H) : uNotN x .non H Q := ⟨rfl, by rw [e]; exact q⟩
theorem r_eq_i (q : Q (.bl (decide (i = j))) H) : uEq K (.int i) (.int j) H Q := .inl (r_eqi q)
theorem r_ne_i (q : Q (.bl (!decide (i = j))) H) : uNe K (.int i) (.int j) H Q := .inl (r_nei q)
theorem r_eq_s {s t : Str} (q : Q (.bl (decide (s = t))) H) : uEq K (.str s) (.str t) H Q := .inl ⟨rfl, by
  have e : decide (V.str s = V.str t) = decide (s = t) := by rw [Bool.eq_iff_iff]; simp
  rw [e]; exact q⟩
theorem r_ne_s {s t : Str} (q : Q (.bl (!decide (s = t))) H) : uNe K (.str s) (.str t) H Q := .inl ⟨rfl, by
  have e : decide (V.str s = V.str t) = decide (s = t) := by rw [Bool.eq_iff_iff]; simp
  rw [e]; exact q⟩
theorem r_eq_d {d e : PyData} (hd : Dp K H x d) (he : Dp K H y e) (s1 : SeqAt.shaped d = true) (s2 : SeqAt.shaped e = true) (q : Q (.bl (PyData.eqv d e)) H) : uEq K x y H Q := .inr ⟨d, e, hd, he, s1, s2, q⟩
theorem r_ne_d {d e : PyData} (hd : Dp K H x d) (he : Dp K H y e) (s1 : SeqAt.shaped d = true) (s2 : SeqAt.shaped e = true) (q : Q (.bl (!PyData.eqv d e)) H) : uNe K x y H Q := .inr ⟨d, e, hd, he, s1, s2, q⟩
theorem r_ixl (h : SqL K H p xs) (e : atI xs i = some v) (q : Q v H) : rIx K (.ref p) (.int i) H Q := .inl ⟨p, xs, i, v, rfl, rfl, h, e, q⟩
theorem r_ixt (h : SqT K H p xs) (e : atI xs i = some v) (q : Q v H) : rIx K (.ref p) (.int i) H Q := .inr (.inl ⟨p, xs, i, v, rfl, rfl, h, e, q⟩)
theorem r_ixs {z : Str} {c : Nat} (h : z.length ≤ sizeLine) (e : atI z.cps.toList i = some c) (q : Q (.str ⟨#[c]⟩) H) : rIx K (.str z) (.int i) H Q := .inr (.inr ⟨z, i, c, rfl, rfl, h, e, q⟩)
theorem r_gsub {to ti : TE} {t : TSet} {R : St → Hp → Prop} (q : to σ H fun o H1 => ti σ H1 fun i H2 => t o i v H2 fun H3 => R σ H3) : gSub to ti t v σ H R := q
theorem r_gname {i : Nat} {R : St → Hp → Prop} (q : R (σ.set i (some v)) H) : gName i v σ H R := q
theorem r_setl {R : Hp → Prop} {j : Nat} (h : H p = some (.lst xs)) (e : ixN xs.length i = some j) (q : ∀ H', Keep (At p) H H' → H' p = some (.lst (xs.set j v)) → R H') : rSetL (.ref p) (.int i) v H R := ⟨p, xs, i, j, rfl, rfl, h, e, q _ Keep.at_ upd_same⟩
theorem r_gtup {n : Nat} {t : TGs} {R : St → Hp → Prop} (h : SqT K H a xs) (e : xs.length = n) (q : t xs σ H R) : gTup K n t (.ref a) σ H R := ⟨a, xs, rfl, h, e, q⟩
theorem r_glst {n : Nat} {t : TGs} {R : St → Hp → Prop} (h : SqL K H a xs) (e : xs.length = n) (q : t xs σ H R) : gLst K n t (.ref a) σ H R := ⟨a, xs, rfl, h, e, q⟩
theorem r_gcons {t : TG} {u : TGs} {vs : List V} {R : St → Hp → Prop} (q : t v σ H fun σ' H' => u vs σ' H' R) : gCons t u (v :: vs) σ H R := ⟨v, vs, rfl, q⟩
theorem r_gnil {R : St → Hp → Prop} (q : R σ H) : gNil [] σ H R := ⟨rfl, q⟩
theorem r_all {bs : List Bool} (h : SqL K H a (bs.map V.bl)) (q : Q (.bl (bs.all id)) H) : rAll K [.ref a] H Q := ⟨a, bs, rfl, h, q⟩
theorem r_allT (h : SqL K H a xs) (hx : ∀ v ∈ xs, v = V.bl true) (q : Q (.bl true) H) : rAll K [.ref a] H Q := by
  have e : xs = (xs.map fun _ => true).map V.bl := by
    rw [List.map_map]
    have : xs = xs.map id := by simp
    rw [this]
    simp only [List.map_map]
    exact List.map_congr_left fun v hv => hx v hv
  have e2 : (xs.map fun _ => true).all id = true := by simp
  refine r_all (bs := xs.map fun _ => true) (by rw [← e]; exact h) ?_
  rw [e2]
  exact q
theorem r_any {bs : List Bool} (h : SqL K H a (bs.map V.bl)) (q : Q (.bl (bs.any id)) H) : rAny K [.ref a] H Q := ⟨a, bs, rfl, h, q⟩
/-! isinstance -/
def tyN : PyData → String
  | .none => "NoneType"
  | .bool _ => "bool"
  | .int _ => "int"
  | .str _ => "str"
  | .list _ => "list"
  | .tuple _ => "tuple"
  | .dict _ => "dict"
def isK (n t : String) : Bool := n == t || (t == "bool" && n == "int")
def isT (n : String) (d : PyData) : Bool := isK n (tyN d)
def tyD (d : PyData) : Value := .type (tyN d)
theorem kit_tab {t n : String} (ht : t = "NoneType" ∨ t = "bool" ∨ t = "int" ∨ t = "str" ∨ t = "list" ∨ t = "tuple" ∨ t = "dict") (hn : n = "int" ∨ n = "bool" ∨ n = "tuple" ∨ n = "str" ∨ n = "list") : kitB t n = some (isK n t) := by
  rcases ht with rfl | rfl | rfl | rfl | rfl | rfl | rfl <;> rcases hn with rfl | rfl | rfl | rfl | rfl <;> decide +kernel
theorem dp_ty {d : PyData} (h : Dp K H v d) : TyX K H v (tyD d) := by
  cases h with
  | non => exact .base .non
  | bl b => exact .base (.bl b)
  | int i => exact .base (.int i)
  | str s => exact .base (.str s)
  | lst hs _ =>
    rcases hs with (hs | ⟨o, hs⟩) | ⟨o, its, n, hk, hc, _⟩
    · exact .base (.lst hs)
    · exact .base (.frz hs)
    · exact .kList hk hc
  | tup hs _ =>
    rcases hs with (hs | ⟨o, hs⟩) | ⟨o, its, n, hk, hc, _⟩
    · exact .base (.tup hs)
    · exact .fTuple hs
    · exact .kTuple hk hc
theorem r_isi {d : PyData} {n : String} (h : Dp K H v d) (hn : n = "int" ∨ n = "bool" ∨ n = "tuple" ∨ n = "str" ∨ n = "list") (q : Q (.bl (isT n d)) H) : rIsi K [v, .ty n] H Q := by
  refine ⟨v, .ty n, tyD d, .type n, isT n d, rfl, .ty n, dp_ty h, ?_, q⟩
  refine kit_ty (kit_tab ?_ hn)
  cases d <;> simp [tyN]
end

section
variable {K : PySem.W.Frag} {H : Hp} {Q : VK} {a : Addr} {xs : List V} {i : Int} {b : Bool} {z : Str}
theorem r_isi_ii (q : Q (.bl true) H) : rIsi K [.int i, .ty "int"] H Q := r_isi (n := "int") (.int i) (by decide) q
theorem r_isi_ib (q : Q (.bl false) H) : rIsi K [.int i, .ty "bool"] H Q := r_isi (n := "bool") (.int i) (by decide) q
theorem r_isi_it (q : Q (.bl false) H) : rIsi K [.int i, .ty "tuple"] H Q := r_isi (n := "tuple") (.int i) (by decide) q
theorem r_isi_is (q : Q (.bl false) H) : rIsi K [.int i, .ty "str"] H Q := r_isi (n := "str") (.int i) (by decide) q
theorem r_isi_ni (q : Q (.bl false) H) : rIsi K [.non, .ty "int"] H Q := r_isi (n := "int") .non (by decide) q
theorem r_isi_nt (q : Q (.bl false) H) : rIsi K [.non, .ty "tuple"] H Q := r_isi (n := "tuple") .non (by decide) q
theorem r_isi_bb (q : Q (.bl true) H) : rIsi K [.bl b, .ty "bool"] H Q := r_isi (n := "bool") (.bl b) (by decide) q
theorem r_isi_bi (q : Q (.bl true) H) : rIsi K [.bl b, .ty "int"] H Q := r_isi (n := "int") (.bl b) (by decide) q
theorem r_isi_ss (q : Q (.bl true) H) : rIsi K [.str z, .ty "str"] H Q := r_isi (n := "str") (.str z) (by decide) q
theorem r_isi_si (q : Q (.bl false) H) : rIsi K [.str z, .ty "int"] H Q := r_isi (n := "int") (.str z) (by decide) q
theorem r_isi_st (q : Q (.bl false) H) : rIsi K [.str z, .ty "tuple"] H Q := r_isi (n := "tuple") (.str z) (by decide) q
theorem tyX_tup (h : SqT K H a xs) : TyX K H (.ref a) (.type "tuple") := by
  rcases h with (hs | ⟨o, hs⟩) | ⟨o, its, n, hk, hc, _⟩
  · exact .base (.tup hs)
  · exact .fTuple hs
  · exact .kTuple hk hc
theorem tyX_lst (h : SqL K H a xs) : TyX K H (.ref a) (.type "list") := by
  rcases h with (hs | ⟨o, hs⟩) | ⟨o, its, n, hk, hc, _⟩
  · exact .base (.lst hs)
  · exact .base (.frz hs)
  · exact .kList hk hc
theorem r_isi_tt (h : SqT K H a xs) (q : Q (.bl true) H) : rIsi K [.ref a, .ty "tuple"] H Q := ⟨_, _, _, _, true, rfl, .ty "tuple", tyX_tup h, kit_ty (kit_tab (by decide) (by decide)), q⟩
theorem r_isi_ti (h : SqT K H a xs) (q : Q (.bl false) H) : rIsi K [.ref a, .ty "int"] H Q := ⟨_, _, _, _, false, rfl, .ty "int", tyX_tup h, kit_ty (kit_tab (by decide) (by decide)), q⟩
end
/-! ### walks: how many turns, what each turn yields -/
structure Wk (J : It) (n : Nat) (src : Hp → Prop) (item : Nat → Hp → V → Hp → Prop) : Prop where
  go : ∀ i H, src H → i < n → J.go i H
  stop : ∀ i H, src H → n ≤ i → J.stop i H
  yld : ∀ i H x H', src H → J.yld i H x H' → item i H x H'
section
variable {K : PySem.W.Frag} {a b : Addr} {xs ys : List V}
theorem wk_list : Wk (Itl K a) xs.length (fun H => SqL K H a xs) (fun i H x H' => H' = H ∧ xs[i]? = some x) where
  go := fun i H h hi => ⟨xs, xs[i], h, by simp [hi]⟩
  stop := fun i H h hi => ⟨xs, h, hi⟩
  yld := fun i H x H' h y => by obtain ⟨e, y⟩ := y; exact ⟨e, y xs h⟩
theorem wk_tup : Wk (Itt K a) xs.length (fun H => SqT K H a xs) (fun i H x H' => H' = H ∧ xs[i]? = some x) where
  go := fun i H h hi => ⟨xs, xs[i], h, by simp [hi]⟩
  stop := fun i H h hi => ⟨xs, h, hi⟩
  yld := fun i H x H' h y => by obtain ⟨e, y⟩ := y; exact ⟨e, y xs h⟩
theorem wk_rng {lo : Int} {n : Nat} : Wk (Itr lo n) n (fun _ => True) (fun i H x H' => H' = H ∧ x = .int (lo + i)) where
  go := fun i H _ hi => hi
  stop := fun i H _ hi => hi
  yld := fun i H x H' _ y => y
theorem wk_rngC {lo c : Int} {n : Nat} : Wk (Itc lo c n) n (fun _ => True) (fun i H x H' => H' = H ∧ x = .int (lo + (i : Nat) * c)) where
  go := fun i H _ hi => hi
  stop := fun i H _ hi => hi
  yld := fun i H x H' _ y => y
theorem wk_zipL : Wk (Itz K a b) (min xs.length ys.length) (fun H => SqL K H a xs ∧ SqL K H b ys) (fun i H v H' => ∃ T x y, v = .ref T ∧ H T = none ∧ H' = upd H T (.tup [x, y]) ∧ xs[i]? = some x ∧ ys[i]? = some y) where
  go := fun i H h hi => ⟨xs, ys, xs[i]'(by omega), ys[i]'(by omega), h.1, h.2, by simp, by simp⟩
  stop := fun i H h hi => ⟨xs, ys, h.1, h.2, by omega⟩
  yld := fun i H v H' h y => by
    obtain ⟨T, x, z, e1, e2, e3, e4, e5⟩ := y
    exact ⟨T, x, z, e1, e2, e3, e4 xs h.1, e5 ys h.2⟩
theorem wk_zipT : Wk (RZ.ItzT K a b) (min xs.length ys.length) (fun H => SqT K H a xs ∧ SqT K H b ys) (fun i H v H' => ∃ T x y, v = .ref T ∧ H T = none ∧ H' = upd H T (.tup [x, y]) ∧ xs[i]? = some x ∧ ys[i]? = some y) where
  go := fun i H h hi => ⟨xs, ys, xs[i]'(by omega), ys[i]'(by omega), h.1, h.2, by simp, by simp⟩
  stop := fun i H h hi => ⟨xs, ys, h.1, h.2, by omega⟩
  yld := fun i H v H' h y => by
    obtain ⟨T, x, z, e1, e2, e3, e4, e5⟩ := y
    exact ⟨T, x, z, e1, e2, e3, e4 xs h.1, e5 ys h.2⟩
end
/-- what a for asks once it is known what it walks -/
def ForW (J : It) (g : TG) (tb : TS) : TS := fun D σ H => ∃ W : Nat → Nat → St → Hp → Prop, (∃ m, W 0 m σ H) ∧ ∀ i m σ H, W i m σ H →
  (J.stop i H ∧ D.nx σ H) ∨ (J.go i H ∧ ∃ N : St → Hp → Prop, (∀ σ' H', N σ' H' → ∃ m', m' < m ∧ W (i + 1) m' σ' H') ∧ ∀ x H', J.yld i H x H' → g x σ H' fun σ2 H2 => tb { D with nx := N, ct := N, bk := D.nx } σ2 H2)
def LcW (J : It) (g : TG) (tt : TT) (te : TE) (vs : List Nat) : TE := fun σ H1 Q => ∀ D, H1 D = none → ∃ W : Nat → Nat → Hp → Prop, (∃ m, W 0 m (upd H1 D (.lst []))) ∧ ∀ i m H, W i m H →
  (J.stop i H ∧ Q (.ref D) H) ∨ (J.go i H ∧ ∃ Nx : Hp → Prop, (∀ H', Nx H' → ∃ m', m' < m ∧ W (i + 1) m' H') ∧ ∀ x H', J.yld i H x H' → g x (wipe σ vs) H' fun σ2 H2 => wipe σ2 vs = wipe σ vs ∧ tt σ2 H2 fun b H3 =>
    if b = true then te σ2 H3 fun y H4 => ∃ acc, H4 D = some (.lst acc) ∧ acc.length < sizeLine ∧ Nx (upd H4 D (.lst (acc ++ [y]))) else Nx H3)
section
variable {K : PySem.W.Frag} {σ : St} {H : Hp} {Q : VK} {ta tl te : TE} {tt : TT} {tb : TS} {g : TG} {wi : TI} {nx bk ct : St → Hp → Prop} {rt : VK} {vs : List Nat} {J : It} {n : Nat} {src : Hp → Prop} {item : Nat → Hp → V → Hp → Prop} {a b : Addr} {xs ys : List V}
theorem r_for (q : wi σ H fun J H1 => ForW J g tb ⟨nx, rt, bk, ct⟩ σ H1) : tFor wi g tb ⟨nx, rt, bk, ct⟩ σ H := q
theorem r_lc (q : wi σ H fun J H1 => LcW J g tt te vs σ H1 Q) : tLc wi g tt te vs σ H Q := q
/-- a list or a tuple that is walked -/
def uWalk (K : PySem.W.Frag) (x : V) (H : Hp) (R : It → Hp → Prop) (l : Bool) : Prop := ∃ a, x = .ref a ∧ (if l = true then (∃ xs, SqL K H a xs) ∧ R (Itl K a) H else (∃ xs, SqT K H a xs) ∧ R (Itt K a) H)
theorem r_ilist {R : It → Hp → Prop} (q : tl σ H fun x H1 => uWalk K x H1 R true) : iList K tl σ H R := by
  have e : (fun (x : V) (H1 : Hp) => uWalk K x H1 R true) = fun x H1 => ∃ a, x = .ref a ∧ (∃ xs, SqL K H1 a xs) ∧ R (Itl K a) H1 := by
    funext x H1
    simp [uWalk]
  rw [e] at q
  exact q
theorem r_itup {R : It → Hp → Prop} (q : tl σ H fun x H1 => uWalk K x H1 R false) : iTup K tl σ H R := by
  have e : (fun (x : V) (H1 : Hp) => uWalk K x H1 R false) = fun x H1 => ∃ a, x = .ref a ∧ (∃ xs, SqT K H1 a xs) ∧ R (Itt K a) H1 := by
    funext x H1
    simp [uWalk]
  rw [e] at q
  exact q
theorem r_wl {R : It → Hp → Prop} (h : SqL K H a xs) (q : R (Itl K a) H) : uWalk K (.ref a) H R true := ⟨a, rfl, by rw [if_pos rfl]; exact ⟨⟨xs, h⟩, q⟩⟩
theorem r_wt {R : It → Hp → Prop} (h : SqT K H a xs) (q : R (Itt K a) H) : uWalk K (.ref a) H R false := ⟨a, rfl, by rw [if_neg (by decide)]; exact ⟨⟨xs, h⟩, q⟩⟩
def uRng1 (vs : List V) (H : Hp) (R : It → Hp → Prop) : Prop := ∃ j : Int, vs = [.int j] ∧ -(2 ^ 62) ≤ j ∧ j < 2 ^ 62 ∧ R (Itr 0 j.toNat) H
def uRng2 (vs : List V) (H : Hp) (R : It → Hp → Prop) : Prop := ∃ i j : Int, vs = [.int i, .int j] ∧ (-(2 ^ 62) ≤ i ∧ i < 2 ^ 62 ∧ -(2 ^ 62) ≤ j ∧ j < 2 ^ 62) ∧ R (Itr i (j - i).toNat) H
theorem r_irng1 {t : TA} {R : It → Hp → Prop} (q : t σ H fun vs H1 => uRng1 vs H1 R) : iRng1 t σ H R := q
theorem r_irng2 {t : TA} {R : It → Hp → Prop} (q : t σ H fun vs H1 => uRng2 vs H1 R) : iRng2 t σ H R := q
theorem r_rng1 {j : Int} {R : It → Hp → Prop} (h1 : -(2 ^ 62) ≤ j) (h2 : j < 2 ^ 62) (q : R (Itr 0 j.toNat) H) : uRng1 [.int j] H R := ⟨j, rfl, h1, h2, q⟩
theorem r_rng2 {i j : Int} {R : It → Hp → Prop} (h1 : -(2 ^ 62) ≤ i) (h2 : i < 2 ^ 62) (h3 : -(2 ^ 62) ≤ j) (h4 : j < 2 ^ 62) (q : R (Itr i (j - i).toNat) H) : uRng2 [.int i, .int j] H R := ⟨i, j, rfl, ⟨h1, h2, h3, h4⟩, q⟩
def uZip (K : PySem.W.Frag) (vs : List V) (H : Hp) (R : It → Hp → Prop) : Prop := ∃ a b xs ys, vs = [.ref a, .ref b] ∧ ((SqL K H a xs ∧ SqL K H b ys ∧ R (Itz K a b) H) ∨ (SqT K H a xs ∧ SqT K H b ys ∧ R (RZ.ItzT K a b) H))
theorem r_izip {t : TA} {R : It → Hp → Prop} (q : t σ H fun vs H1 => uZip K vs H1 R) : RZ.iZipA K t σ H R := q
theorem r_zipL {R : It → Hp → Prop} (h1 : SqL K H a xs) (h2 : SqL K H b ys) (q : R (Itz K a b) H) : uZip K [.ref a, .ref b] H R := ⟨a, b, xs, ys, rfl, .inl ⟨h1, h2, q⟩⟩
theorem r_zipT {R : It → Hp → Prop} (h1 : SqT K H a xs) (h2 : SqT K H b ys) (q : R (RZ.ItzT K a b) H) : uZip K [.ref a, .ref b] H R := ⟨a, b, xs, ys, rfl, .inr ⟨h1, h2, q⟩⟩

/-- a for by its invariant -/
theorem for_wk (w : Wk J n src item) (Pv : Nat → St → Hp → Prop) (h0 : Pv 0 σ H) (hsrc : ∀ i σ H, i ≤ n → Pv i σ H → src H)
    (hs : ∀ i x σ H H', i < n → Pv i σ H → item i H x H' → g x σ H' fun σ2 H2 => tb ⟨Pv (i + 1), rt, nx, Pv (i + 1)⟩ σ2 H2) (hd : ∀ σ H, Pv n σ H → nx σ H) :
    ForW J g tb ⟨nx, rt, bk, ct⟩ σ H := by
  refine ⟨fun i m σ H => m = n - i ∧ i ≤ n ∧ Pv i σ H, ⟨n, by simp, Nat.zero_le _, h0⟩, ?_⟩
  rintro i m σ H ⟨rfl, hi, p⟩
  have q := hsrc i σ H hi p
  by_cases hlt : i < n
  · refine .inr ⟨w.go i H q hlt, Pv (i + 1), fun σ' H' p' => ⟨n - (i + 1), by omega, rfl, hlt, p'⟩, fun x H' y => ?_⟩
    exact hs i x σ H H' hlt p (w.yld i H x H' q y)
  · have e : i = n := by omega
    subst e
    exact .inl ⟨w.stop i H q (Nat.le_refl _), hd σ H p⟩
theorem lc_wk (w : Wk J n src item) (Pv : Addr → Nat → Hp → Prop) (h0 : ∀ D, H D = none → Pv D 0 (upd H D (.lst []))) (hsrc : ∀ D i H, i ≤ n → Pv D i H → src H)
    (hs : ∀ D i x H2 H', H D = none → i < n → Pv D i H2 → item i H2 x H' → g x (wipe σ vs) H' fun σ2 H2 => wipe σ2 vs = wipe σ vs ∧ tt σ2 H2 fun b H3 =>
      if b = true then te σ2 H3 fun y H4 => ∃ acc, H4 D = some (.lst acc) ∧ acc.length < sizeLine ∧ Pv D (i + 1) (upd H4 D (.lst (acc ++ [y]))) else Pv D (i + 1) H3)
    (hd : ∀ D H', H D = none → Pv D n H' → Q (.ref D) H') : LcW J g tt te vs σ H Q := by
  intro D hD
  refine ⟨fun i m H => m = n - i ∧ i ≤ n ∧ Pv D i H, ⟨n, by simp, Nat.zero_le _, h0 D hD⟩, ?_⟩
  rintro i m H2 ⟨rfl, hi, p⟩
  have q := hsrc D i H2 hi p
  by_cases hlt : i < n
  · refine .inr ⟨w.go i H2 q hlt, Pv D (i + 1), fun H' p' => ⟨n - (i + 1), by omega, rfl, hlt, p'⟩, fun x H' y => ?_⟩
    exact hs D i x H2 H' hD hlt p (w.yld i H2 x H' q y)
  · have e : i = n := by omega
    subst e
    exact .inl ⟨w.stop i H2 q (Nat.le_refl _), hd D H2 hD p⟩
theorem wipe_one {j : Nat} {x : V} : wipe ((wipe σ [j]).set j (some x)) [j] = wipe σ [j] := by
  simp [wipe, List.set_set]
theorem take_snoc {α : Type} : ∀ {l : List α} {i : Nat} {x : α}, l[i]? = some x → l.take (i + 1) = l.take i ++ [x]
  | [], i, x, h => by simp at h
  | a :: l, 0, x, h => by
    have e : a = x := Option.some.inj h
    subst e; rfl
  | a :: l, i + 1, x, h => by
    have ih := take_snoc (l := l) (i := i) (x := x) h
    show a :: l.take (i + 1) = a :: l.take i ++ [x]
    rw [ih]; rfl
/-- a comprehension over one name whose element and test are pure: known values -/
theorem lc_pure {j : Nat} (w : Wk J xs.length src (fun i H x H' => H' = H ∧ xs[i]? = some x)) (hsrc : ∀ H', Same H H' → src H') (hn : xs.length ≤ 16777216) (f : V → Bool) (v : V → V)
    (ht : ∀ x H2 (R : Bool → Hp → Prop), x ∈ xs → Same H H2 → (∀ H3, Same H2 H3 → R (f x) H3) → tt ((wipe σ [j]).set j (some x)) H2 R)
    (he : ∀ x H2 (R : VK), x ∈ xs → f x = true → Same H H2 → (∀ H3, Same H2 H3 → R (v x) H3) → te ((wipe σ [j]).set j (some x)) H2 R)
    (q : ∀ D H', H D = none → Same H H' → H' D = some (.lst ((xs.filter f).map v)) → Q (.ref D) H') : LcW J (gName j) tt te [j] σ H Q := by
  refine lc_wk w (fun D i H' => H D = none ∧ Same H H' ∧ H' D = some (.lst (((xs.take i).filter f).map v))) (fun D hD => ⟨hD, fun b o e => by rw [upd_ne (ne_of_none e hD)]; exact e, by simp [upd_same]⟩)
    (fun D i H' _ p => hsrc H' p.2.1) ?_ (fun D H' hD p => q D H' hD p.2.1 (by have := p.2.2; rw [List.take_length] at this; exact this))
  rintro D i x H2 H' hD hi ⟨p1, p2, p3⟩ ⟨rfl, hx⟩
  have hm : x ∈ xs := List.mem_of_getElem? hx
  show wipe ((wipe σ [j]).set j (some x)) [j] = wipe σ [j] ∧ tt ((wipe σ [j]).set j (some x)) H' _
  refine ⟨wipe_one, ht x H' _ hm p2 fun H3 e3 => ?_⟩
  have t3 := take_snoc hx
  have hl : ((xs.take i).filter f).length ≤ i := Nat.le_trans (List.length_filter_le _ _) (by simp; omega)
  cases hf : f x with
  | true =>
    refine i_T (he x H3 _ hm hf (p2.trans e3) fun H4 e4 => ⟨_, e4 _ _ (e3 _ _ p3), by rw [List.length_map, sizeLine_eq]; omega, hD, fun b o e => ?_, ?_⟩)
    · rw [upd_ne (ne_of_none e hD)]; exact e4 _ _ (e3 _ _ (p2 _ _ e))
    · rw [upd_same, t3, List.filter_append, List.map_append]
      simp [hf]
  | false =>
    refine i_F ⟨hD, p2.trans e3, ?_⟩
    rw [t3, List.filter_append, List.map_append]
    simp [hf]
    exact e3 _ _ p3
/-- .. whose elements are told by a relation that stays where tuples stay -/
theorem lc_rel {j : Nat} (w : Wk J xs.length src (fun i H x H' => H' = H ∧ xs[i]? = some x)) (hsrc : ∀ H', Same H H' → src H') (hn : xs.length ≤ 16777216) (f : V → Bool) (R : Hp → V → V → Prop) (hR : ∀ H H' x y, TExt H H' → R H x y → R H' x y)
    (ht : ∀ x H2 (S : Bool → Hp → Prop), x ∈ xs → Same H H2 → (∀ H3, Same H2 H3 → S (f x) H3) → tt ((wipe σ [j]).set j (some x)) H2 S)
    (he : ∀ x H2 (S : VK), x ∈ xs → f x = true → Same H H2 → (∀ y H3, Same H2 H3 → R H3 x y → S y H3) → te ((wipe σ [j]).set j (some x)) H2 S)
    (q : ∀ D H' ys, H D = none → Same H H' → H' D = some (.lst ys) → Paired (R H') (xs.filter f) ys → Q (.ref D) H') : LcW J (gName j) tt te [j] σ H Q := by
  refine lc_wk w (fun D i H' => H D = none ∧ Same H H' ∧ ∃ ys, H' D = some (.lst ys) ∧ Paired (R H') ((xs.take i).filter f) ys) (fun D hD => ⟨hD, fun b o e => by rw [upd_ne (ne_of_none e hD)]; exact e, [], by simp [upd_same], by simpa using Paired.nil⟩)
    (fun D i H' _ p => hsrc H' p.2.1) ?_ (fun D H' hD p => by obtain ⟨p1, p2, ys, p3, p4⟩ := p; rw [List.take_length] at p4; exact q D H' ys hD p2 p3 p4)
  rintro D i x H2 H' hD hi ⟨p1, p2, ys, p3, p4⟩ ⟨rfl, hx⟩
  have hm : x ∈ xs := List.mem_of_getElem? hx
  show wipe ((wipe σ [j]).set j (some x)) [j] = wipe σ [j] ∧ tt ((wipe σ [j]).set j (some x)) H' _
  refine ⟨wipe_one, ht x H' _ hm p2 fun H3 e3 => ?_⟩
  have t3 := take_snoc hx
  have hl : ((xs.take i).filter f).length ≤ i := Nat.le_trans (List.length_filter_le _ _) (by simp; omega)
  have hl2 := p4.length
  cases hf : f x with
  | true =>
    refine i_T (he x H3 _ hm hf (p2.trans e3) fun y H4 e4 hy => ⟨ys, e4 _ _ (e3 _ _ p3), by rw [sizeLine_eq]; omega, hD, fun b o e => ?_, ys ++ [y], upd_same, ?_⟩)
    · rw [upd_ne (ne_of_none e hD)]; exact e4 _ _ (e3 _ _ (p2 _ _ e))
    · have te2 : TExt H4 (upd H4 D (.lst (ys ++ [y]))) := TExt.lst Keep.at_ (e4 _ _ (e3 _ _ p3))
      rw [t3, List.filter_append]
      simp only [List.filter_cons, hf, List.filter_nil, if_true]
      exact (Paired.mapP p4 fun u z r => hR _ _ _ _ ((TExt.of_same (e3.trans e4)).trans te2) r).snoc (hR _ _ _ _ te2 hy)
  | false =>
    refine i_F ⟨hD, p2.trans e3, ys, e3 _ _ p3, ?_⟩
    rw [t3, List.filter_append]
    simp [hf]
    exact Paired.mapP p4 fun u z r => hR _ _ _ _ (TExt.of_same e3) r
theorem filter_all {α : Type} (l : List α) : l.filter (fun _ => true) = l := List.filter_eq_self.mpr (by simp)
theorem lc_map {j : Nat} (w : Wk J xs.length src (fun i H x H' => H' = H ∧ xs[i]? = some x)) (hsrc : ∀ H', Same H H' → src H') (hn : xs.length ≤ 16777216) (v : V → V)
    (he : ∀ x H2 (R : VK), x ∈ xs → Same H H2 → (∀ H3, Same H2 H3 → R (v x) H3) → te ((wipe σ [j]).set j (some x)) H2 R)
    (q : ∀ D H', H D = none → Same H H' → H' D = some (.lst (xs.map v)) → Q (.ref D) H') : LcW J (gName j) tYes te [j] σ H Q :=
  lc_pure w hsrc hn (fun _ => true) v (fun x H2 R _ _ k => k H2 (Same.refl H2)) (fun x H2 R hx _ e k => he x H2 R hx e k) (fun D H' hD e hl => q D H' hD e (by rw [filter_all] at hl; exact hl))
theorem lc_mapR {j : Nat} (w : Wk J xs.length src (fun i H x H' => H' = H ∧ xs[i]? = some x)) (hsrc : ∀ H', Same H H' → src H') (hn : xs.length ≤ 16777216) (R : Hp → V → V → Prop) (hR : ∀ H H' x y, TExt H H' → R H x y → R H' x y)
    (he : ∀ x H2 (S : VK), x ∈ xs → Same H H2 → (∀ y H3, Same H2 H3 → R H3 x y → S y H3) → te ((wipe σ [j]).set j (some x)) H2 S)
    (q : ∀ D H' ys, H D = none → Same H H' → H' D = some (.lst ys) → Paired (R H') xs ys → Q (.ref D) H') : LcW J (gName j) tYes te [j] σ H Q :=
  lc_rel w hsrc hn (fun _ => true) R hR (fun x H2 S _ _ k => k H2 (Same.refl H2)) (fun x H2 S hx _ e k => he x H2 S hx e k) (fun D H' ys hD e hl hp => q D H' ys hD e hl (by rw [filter_all] at hp; exact hp))
end
/-! ### more steps -/
section
variable {K : PySem.W.Frag} {H H' : Hp} {Q : VK} {p q a b : Addr} {F : Addr → Prop} {xs ys : List V} {σ : St} {te : TE} {tl th : TO} {lo hi : Option Int} {v : V}
theorem r_sl {r : V → Option Int → Option Int → Hp → VK → Prop} (q : te σ H fun x H1 => tl σ H1 fun l H2 => th σ H2 fun u H3 => r x l u H3 Q) : tSl r te tl th σ H Q := q
theorem r_nopart {R : Option Int → Hp → Prop} (q : R none H) : tNoPart σ H R := q
def uPart (x : V) (H : Hp) (R : Option Int → Hp → Prop) : Prop := ∃ i, x = .int i ∧ R (some i) H
theorem r_part {R : Option Int → Hp → Prop} (q : te σ H fun x H1 => uPart x H1 R) : tPart te σ H R := q
theorem r_parti {i : Int} {R : Option Int → Hp → Prop} (q : R (some i) H) : uPart (.int i) H R := ⟨i, rfl, q⟩
theorem r_sll (h : SqL K H a xs) (q : ∀ p H', H p = none → Same H H' → H' p = some (.lst (cutV xs lo hi)) → Q (.ref p) H') : rSlL K (.ref a) lo hi H Q :=
  ⟨a, xs, rfl, h, fun p hp => q p _ hp (Keep.same (Keep.new hp)) upd_same⟩
theorem cutV_from {xs : List V} {k : Nat} : cutV xs (some (k : Int)) none = xs.drop k := by
  unfold cutV
  rw [HT.sIx_nat, HT.sIx_none]
  by_cases h : k ≤ xs.length
  · rw [Nat.min_eq_left h, List.take_of_length_le (by simp)]
  · rw [Nat.min_eq_right (by omega), List.drop_of_length_le (Nat.le_refl _), List.drop_of_length_le (by omega)]
    simp
theorem cutV_to {xs : List V} {k : Nat} : cutV xs none (some (k : Int)) = xs.take k := by
  unfold cutV
  rw [HT.sIx_nat, HT.sIx_none]
  simp only [List.drop_zero, Nat.sub_zero]
  by_cases h : k ≤ xs.length
  · rw [Nat.min_eq_left h]
  · rw [Nat.min_eq_right (by omega), List.take_of_length_le (Nat.le_refl _), List.take_of_length_le (by omega)]
theorem cutV_init {xs : List V} {x : V} : cutV (xs ++ [x]) none (some (-1)) = xs := by
  unfold cutV
  simp [HT.sIx]
  rw [show (-1 + ((xs.length : Int) + 1)).toNat = xs.length by omega, List.take_left']
  rfl
theorem r_sla (h : SqT K H a xs) (q : ∀ p H', Same H H' → SqT K H' p (cutV xs lo hi) → Q (.ref p) H') : rSlA K (.ref a) lo hi H Q := by
  refine ⟨a, xs, rfl, h, fun e => q a H (Same.refl H) ?_, fun _ p hp => q p _ (Keep.same (Keep.new hp)) (SqT.of upd_same)⟩
  unfold cutV
  rw [e.1, e.2]
  simpa using h
theorem r_cat (h1 : H a = some (.lst xs)) (h2 : H b = some (.lst ys)) (hz : xs.length + ys.length ≤ sizeLine) (q : ∀ p H', H p = none → Same H H' → H' p = some (.lst (xs ++ ys)) → Q (.ref p) H') : rCat (.ref a) (.ref b) H Q :=
  ⟨a, b, xs, ys, rfl, rfl, h1, h2, hz, fun p hp => q p _ hp (Keep.same (Keep.new hp)) upd_same⟩
theorem r_catA (h1 : SqT K H a xs) (h2 : SqT K H b ys) (hz : xs.length + ys.length ≤ sizeLine) (q : ∀ p H', Same H H' → SqT K H' p (xs ++ ys) → Q (.ref p) H') : rCatA K (.ref a) (.ref b) H Q := by
  refine ⟨a, b, xs, ys, rfl, rfl, h1, h2, hz, fun e => ?_, fun _ e => ?_, fun _ _ p hp => q p _ (Keep.same (Keep.new hp)) (SqT.of upd_same)⟩
  · subst e
    exact q b H (Same.refl H) (by simpa using h2)
  · subst e
    exact q a H (Same.refl H) (by simpa using h1)
def uBM (K : PySem.W.Frag) (T : String) (r : V → List V → Hp → VK → Prop) (t : TA) (σ : St) (x : V) (H : Hp) (Q : VK) : Prop := tyV K T x H ∧ t σ H fun xs H2 => r x xs H2 Q
theorem r_bm {T : String} {r : V → List V → Hp → VK → Prop} {t : TA} (q : te σ H fun x H1 => uBM K T r t σ x H1 Q) : tBM K T r te t σ H Q := q
def uBM0 (K : PySem.W.Frag) (T : String) (r : V → List V → Hp → VK → Prop) (x : V) (H : Hp) (Q : VK) : Prop := tyV K T x H ∧ r x [] H Q
theorem r_bm0 {T : String} {r : V → List V → Hp → VK → Prop} (q : te σ H fun x H1 => uBM0 K T r x H1 Q) : tBM0 K T r te σ H Q := q
theorem r_bml {r : V → List V → Hp → VK → Prop} {t : TA} (h : SqL K H a xs) (q : t σ H fun vs H2 => r (.ref a) vs H2 Q) : uBM K "list" r t σ (.ref a) H Q := ⟨.inl ⟨rfl, _, h⟩, q⟩
theorem r_bm0l {r : V → List V → Hp → VK → Prop} (h : SqL K H a xs) (q : r (.ref a) [] H Q) : uBM0 K "list" r (.ref a) H Q := ⟨.inl ⟨rfl, _, h⟩, q⟩
def uRevL (K : PySem.W.Frag) (x : V) (H : Hp) (Q : VK) : Prop := ∃ a xs, x = .ref a ∧ SqL K H a xs ∧ ∀ p, H p = none → Q (.ref p) (upd H p (.lst xs.reverse))
theorem r_revL (q : te σ H fun x H1 => uRevL K x H1 Q) : tRevL K te σ H Q := q
theorem r_revl (h : SqL K H a xs) (q : ∀ p H', H p = none → Same H H' → H' p = some (.lst xs.reverse) → Q (.ref p) H') : uRevL K (.ref a) H Q := ⟨a, xs, rfl, h, fun p hp => q p _ hp (Keep.same (Keep.new hp)) upd_same⟩
theorem r_reverse (h : H a = some (.lst xs)) (q : ∀ H', Keep (At a) H H' → H' a = some (.lst xs.reverse) → Q .non H') : rReverse (.ref a) [] H Q := ⟨a, xs, rfl, rfl, h, q _ Keep.at_ upd_same⟩
theorem r_append (h : H a = some (.lst xs)) (hz : xs.length < sizeLine) (q : ∀ H', Keep (At a) H H' → H' a = some (.lst (xs ++ [v])) → Q .non H') : rAppend (.ref a) [v] H Q := ⟨a, xs, v, rfl, rfl, h, hz, q _ Keep.at_ upd_same⟩
theorem r_extend (h : H a = some (.lst xs)) (h2 : H b = some (.lst ys)) (hz : xs.length + ys.length ≤ sizeLine) (q : ∀ H', Keep (At a) H H' → H' a = some (.lst (xs ++ ys)) → Q .non H') : rExtend (.ref a) [.ref b] H Q := ⟨a, b, xs, ys, rfl, rfl, h, h2, hz, q _ Keep.at_ upd_same⟩
theorem r_sortedI {ns : List Int} (h : SqL K H a (ns.map V.int)) (q : ∀ (ms : List Int) p H', ms.Perm ns → ms.Pairwise (· ≤ ·) → H p = none → Same H H' → H' p = some (.lst (ms.map V.int)) → Q (.ref p) H') : rSortedI K [.ref a] H Q :=
  ⟨a, ns, rfl, h, fun ms p h1 h2 h3 => q ms p _ h1 h2 h3 (Keep.same (Keep.new h3)) upd_same⟩
theorem dpAll_ints (K : PySem.W.Frag) (H : Hp) : ∀ ns : List Int, DpAll K H (ns.map V.int) (ns.map PyData.int)
  | [] => .nil
  | n :: ns => .cons (.int n) (dpAll_ints K H ns)
theorem dpAll_len {K : PySem.W.Frag} {H : Hp} : ∀ {vs : List V} {ds : List PyData}, DpAll K H vs ds → vs.length = ds.length
  | _, _, .nil => rfl
  | _, _, .cons _ h => by simp [dpAll_len h]
theorem dpAll_get {K : PySem.W.Frag} {H : Hp} : ∀ {vs : List V} {ds : List PyData}, DpAll K H vs ds → ∀ x ∈ vs, ∃ d, Dp K H x d
  | _, _, .cons h1 h2, x, hx => by
    rcases List.mem_cons.mp hx with rfl | hx
    · exact ⟨_, h1⟩
    · exact dpAll_get h2 x hx
theorem r_ix01 {x y : Int} {b : Bool} (h : SqL K H p [.int x, .int y]) (q : ∀ z, (z = x ∧ b = false) ∨ (z = y ∧ b = true) → Q (.int z) H) : rIx K (.ref p) (.int (if b = true then 1 else 0)) H Q := by
  cases b with
  | true => exact r_ixl h rfl (q y (.inr ⟨rfl, rfl⟩))
  | false => exact r_ixl h rfl (q x (.inl ⟨rfl, rfl⟩))
theorem SqL.keep (h : SqL K H a xs) (k : Keep F H H') (n : ¬ F a) : SqL K H' a xs := by
  rcases h with (h | ⟨o, h⟩) | h
  · exact .inl (.inl (k a _ h n))
  · exact .inl (.inr ⟨o, k a _ h n⟩)
  · exact .inr h
end
/-! ### data that == is told of: small depth -/
structure Shp (n : Nat) (d : PyData) : Prop where
  c : d.canLay0 = true
  d : d.depth ≤ n
theorem Shp.ok {n : Nat} {d : PyData} (h : Shp n d) (hn : n ≤ 64 := by decide) : SeqAt.shaped d = true := by
  unfold SeqAt.shaped
  rw [h.c, Bool.true_and]
  exact decide_eq_true (Nat.le_trans h.d hn)
theorem Shp.int {n : Nat} (i : Int) : Shp n (.int i) := ⟨by simp [PyData.canLay0], by simp [PyData.depth]⟩
theorem Shp.bool {n : Nat} (i : Bool) : Shp n (.bool i) := ⟨by simp [PyData.canLay0], by simp [PyData.depth]⟩
theorem Shp.none {n : Nat} : Shp n .none := ⟨by simp [PyData.canLay0], by simp [PyData.depth]⟩
theorem shp_all {n : Nat} : ∀ {ds : List PyData}, (∀ d ∈ ds, Shp n d) → PyData.canLayAll0 ds = true ∧ PyData.depthAll ds ≤ n
  | [], _ => ⟨by simp [PyData.canLayAll0], by simp [PyData.depthAll]⟩
  | x :: xs, h => by
    have h1 := h x (List.mem_cons_self ..)
    have h2 := shp_all fun d hd => h d (List.mem_cons_of_mem _ hd)
    exact ⟨by simp [PyData.canLayAll0, h1.c, h2.1], by simp only [PyData.depthAll]; exact Nat.max_le.mpr ⟨h1.d, h2.2⟩⟩
theorem Shp.tuple {n : Nat} {ds : List PyData} (h : ∀ d ∈ ds, Shp n d) : Shp (n + 1) (.tuple ds) := ⟨by simp [PyData.canLay0, (shp_all h).1], by have := (shp_all h).2; simp [PyData.depth]; omega⟩
theorem Shp.list {n : Nat} {ds : List PyData} (h : ∀ d ∈ ds, Shp n d) : Shp (n + 1) (.list ds) := ⟨by simp [PyData.canLay0, (shp_all h).1], by have := (shp_all h).2; simp [PyData.depth]; omega⟩
theorem Shp.tupleM {α : Type} {n : Nat} {as : List α} {f : α → PyData} (h : ∀ c, Shp n (f c)) : Shp (n + 1) (.tuple (as.map f)) := Shp.tuple fun d hd => by
  obtain ⟨c, _, rfl⟩ := List.mem_map.mp hd
  exact h c
theorem Shp.listM {α : Type} {n : Nat} {as : List α} {f : α → PyData} (h : ∀ c, Shp n (f c)) : Shp (n + 1) (.list (as.map f)) := Shp.list fun d hd => by
  obtain ⟨c, _, rfl⟩ := List.mem_map.mp hd
  exact h c
theorem Shp.t2 {n : Nat} {a b : PyData} (ha : Shp n a) (hb : Shp n b) : Shp (n + 1) (.tuple [a, b]) := Shp.tuple (by simp; exact ⟨ha, hb⟩)
theorem Shp.t3 {n : Nat} {a b c : PyData} (ha : Shp n a) (hb : Shp n b) (hc : Shp n c) : Shp (n + 1) (.tuple [a, b, c]) := Shp.tuple (by simp; exact ⟨ha, hb, hc⟩)
theorem Shp.t4 {n : Nat} {a b c d : PyData} (ha : Shp n a) (hb : Shp n b) (hc : Shp n c) (hd : Shp n d) : Shp (n + 1) (.tuple [a, b, c, d]) := Shp.tuple (by simp; exact ⟨ha, hb, hc, hd⟩)
/-! ### data in a row: walks and comprehensions over it -/
section
variable {K : PySem.W.Frag} {σ : St} {H H' : Hp} {Q : VK} {te : TE} {tt : TT} {g : TG} {vs : List Nat} {J : It} {src : Hp → Prop} {item : Nat → Hp → V → Hp → Prop} {a : Addr}
theorem dpAll_at : ∀ {ws : List V} {ds : List PyData}, DpAll K H ws ds → ∀ {i : Nat} {x : V}, ws[i]? = some x → ∃ d, ds[i]? = some d ∧ Dp K H x d
  | _, _, .nil, i, x, h => by simp at h
  | _, _, .cons h1 h2, 0, x, h => by
    have e := Option.some.inj h
    subst e
    exact ⟨_, rfl, h1⟩
  | _, _, .cons h1 h2, i + 1, x, h => dpAll_at h2 (i := i) (x := x) h
theorem dpAll_map_at {α : Type} {f : α → PyData} {as : List α} {ws : List V} (h : DpAll K H ws (as.map f)) {i : Nat} {x : V} (e : ws[i]? = some x) : ∃ c, as[i]? = some c ∧ Dp K H x (f c) := by
  obtain ⟨d, h1, h2⟩ := dpAll_at h e
  rw [List.getElem?_map] at h1
  obtain ⟨c, h3, rfl⟩ := Option.map_eq_some_iff.mp h1
  exact ⟨c, h3, h2⟩
theorem same_at {H H1 H2 : Hp} {f : Addr} (s : Same H H1) (hf : H f = none) (k : Keep (At f) H1 H2) : Same H H2 := fun b o e => k b o (s b o e) (ne_of_none e hf)
theorem dpAll_drop : ∀ {ws : List V} {ds : List PyData} (k : Nat), DpAll K H ws ds → DpAll K H (ws.drop k) (ds.drop k)
  | _, _, 0, h => h
  | _, _, k + 1, .nil => .nil
  | _, _, k + 1, .cons h1 h2 => dpAll_drop k h2
theorem dpAll_take : ∀ {ws : List V} {ds : List PyData} (k : Nat), DpAll K H ws ds → DpAll K H (ws.take k) (ds.take k)
  | _, _, 0, h => by simpa using DpAll.nil
  | _, _, k + 1, .nil => .nil
  | _, _, k + 1, .cons h1 h2 => .cons h1 (dpAll_take k h2)
theorem dpAll_snoc : ∀ {ws : List V} {ds : List PyData} {x : V} {d : PyData}, DpAll K H ws ds → Dp K H x d → DpAll K H (ws ++ [x]) (ds ++ [d])
  | _, _, _, _, .nil, h => .cons h .nil
  | _, _, _, _, .cons h1 h2, h => .cons h1 (dpAll_snoc h2 h)
theorem dpAll_app : ∀ {ws : List V} {ds : List PyData} {ws' : List V} {ds' : List PyData}, DpAll K H ws ds → DpAll K H ws' ds' → DpAll K H (ws ++ ws') (ds ++ ds')
  | _, _, _, _, .nil, h => h
  | _, _, _, _, .cons h1 h2, h => .cons h1 (dpAll_app h2 h)
theorem paired_dp {α : Type} {f : α → PyData} : ∀ {as : List α} {ys : List V}, Paired (fun c y => Dp K H y (f c)) as ys → DpAll K H ys (as.map f)
  | _, _, .nil => .nil
  | _, _, .cons h1 h2 => .cons h1 (paired_dp h2)
theorem dp_tup {v : V} {ds : List PyData} (h : Dp K H v (.tuple ds)) : ∃ p ws, v = .ref p ∧ SqT K H p ws ∧ DpAll K H ws ds := by
  cases h with
  | tup hs ha => exact ⟨_, _, rfl, hs, ha⟩
theorem dp_lst {v : V} {ds : List PyData} (h : Dp K H v (.list ds)) : ∃ p ws, v = .ref p ∧ SqL K H p ws ∧ DpAll K H ws ds := by
  cases h with
  | lst hs ha => exact ⟨_, _, rfl, hs, ha⟩
theorem dp_int {v : V} {i : Int} (h : Dp K H v (.int i)) : v = .int i := by cases h; rfl
theorem dp_non {v : V} (h : Dp K H v .none) : v = .non := by cases h; rfl
theorem dp_bool {v : V} {b : Bool} (h : Dp K H v (.bool b)) : v = .bl b := by cases h; rfl
theorem dp_str {v : V} {z : Str} (h : Dp K H v (.str z)) : v = .str z := by cases h; rfl
theorem dpAll_trues {α : Type} : ∀ {as : List α} {ws : List V}, DpAll K H ws (as.map fun _ => PyData.bool true) → ∀ v ∈ ws, v = V.bl true
  | [], _, .nil, v, hv => by simp at hv
  | a :: as, _, .cons h1 h2, v, hv => by
    rcases List.mem_cons.mp hv with rfl | hv
    · exact dp_bool h1
    · exact dpAll_trues h2 v hv
theorem dpAll_all_ints : ∀ {ws : List V} {ns : List Int}, DpAll K H ws (ns.map PyData.int) → ws = ns.map V.int
  | _, [], .nil => rfl
  | _, n :: ns, .cons h1 h2 => by rw [dp_int h1, dpAll_all_ints h2]; rfl
theorem dp_ints {v : V} {ns : List Int} (h : Dp K H v (.tuple (ns.map PyData.int))) : ∃ p, v = .ref p ∧ SqT K H p (ns.map V.int) := by
  obtain ⟨p, ws, rfl, h1, h2⟩ := dp_tup h
  rw [dpAll_all_ints h2] at h1
  exact ⟨p, rfl, h1⟩
theorem mapP_mono {α : Type} {R S : α → V → Prop} {as : List α} {ys : List V} (h : Paired R as ys) (k : ∀ c y, R c y → S c y) : Paired S as ys := Paired.mapP h k
/-- a comprehension over whatever is walked: each kept item's element is told by R, which stays where tuples stay -/
theorem lc_gen {α : Type} (as : List α) (It1 : α → V → Hp → Prop) (w : Wk J as.length src item) (hit : ∀ i H x H', i < as.length → item i H x H' → ∃ c, as[i]? = some c ∧ Same H H' ∧ It1 c x H') (hsrc : ∀ H', Same H H' → src H')
    (hn : as.length ≤ 16777216) (f : α → Bool) (R : Hp → α → V → Prop) (hR : ∀ H H' c y, TExt H H' → R H c y → R H' c y)
    (hs : ∀ c x H2 (S : VK) (N : Hp → Prop), c ∈ as → Same H H2 → It1 c x H2 → (f c = true → ∀ y H3, Same H2 H3 → R H3 c y → S y H3) → (f c = false → ∀ H3, Same H2 H3 → N H3) →
      g x (wipe σ vs) H2 fun σ2 H3 => wipe σ2 vs = wipe σ vs ∧ tt σ2 H3 fun b H4 => if b = true then te σ2 H4 S else N H4)
    (q : ∀ D H' ys, H D = none → Same H H' → H' D = some (.lst ys) → Paired (R H') (as.filter f) ys → Q (.ref D) H') : LcW J g tt te vs σ H Q := by
  refine lc_wk w (fun D i H' => H D = none ∧ Same H H' ∧ ∃ ys, H' D = some (.lst ys) ∧ Paired (R H') ((as.take i).filter f) ys) (fun D hD => ⟨hD, fun b o e => by rw [upd_ne (ne_of_none e hD)]; exact e, [], by simp [upd_same], by simpa using Paired.nil⟩)
    (fun D i H' _ p => hsrc H' p.2.1) ?_ (fun D H' hD p => by obtain ⟨p1, p2, ys, p3, p4⟩ := p; rw [List.take_length] at p4; exact q D H' ys hD p2 p3 p4)
  rintro D i x H2 H' hD hi ⟨p1, p2, ys, p3, p4⟩ hx
  obtain ⟨c, hc, s1, hI⟩ := hit i H2 x H' hi hx
  have t3 := take_snoc hc
  have hl : ((as.take i).filter f).length ≤ i := Nat.le_trans (List.length_filter_le _ _) (by simp; omega)
  have hl2 := p4.length
  have hm : c ∈ as := List.mem_of_getElem? hc
  refine hs c x H' _ _ hm (p2.trans s1) hI (fun hf y H4 e4 hy => ?_) (fun hf H3 e3 => ?_)
  · refine ⟨ys, e4 _ _ (s1 _ _ p3), by rw [sizeLine_eq]; omega, hD, fun b o e => ?_, ys ++ [y], upd_same, ?_⟩
    · rw [upd_ne (ne_of_none e hD)]; exact e4 _ _ (s1 _ _ (p2 _ _ e))
    · have te2 : TExt H4 (upd H4 D (.lst (ys ++ [y]))) := TExt.lst Keep.at_ (e4 _ _ (s1 _ _ p3))
      rw [t3, List.filter_append]
      simp only [List.filter_cons, hf, List.filter_nil, if_true]
      exact (Paired.mapP p4 fun u z r => hR _ _ _ _ ((TExt.of_same (s1.trans e4)).trans te2) r).snoc (hR _ _ _ _ te2 hy)
  · refine ⟨hD, p2.trans (s1.trans e3), ys, e3 _ _ (s1 _ _ p3), ?_⟩
    rw [t3, List.filter_append]
    simp [hf]
    exact Paired.mapP p4 fun u z r => hR _ _ _ _ (TExt.of_same (s1.trans e3)) r
/-- over range(n) -/
theorem lc_rngD {n : Nat} {lo : Int} (hn : n ≤ 16777216) (f : Nat → Bool) (fx : Nat → PyData) (hi : ∀ c, imm (fx c) = true)
    (hs : ∀ (c : Nat) H2 (S : VK) (N : Hp → Prop), c < n → Same H H2 → (f c = true → ∀ y H3, Same H2 H3 → Dp K H3 y (fx c) → S y H3) → (f c = false → ∀ H3, Same H2 H3 → N H3) →
      g (.int (lo + c)) (wipe σ vs) H2 fun σ2 H3 => wipe σ2 vs = wipe σ vs ∧ tt σ2 H3 fun b H4 => if b = true then te σ2 H4 S else N H4)
    (q : ∀ D H' ys, H D = none → Same H H' → H' D = some (.lst ys) → DpAll K H' ys (((List.range n).filter f).map fx) → Q (.ref D) H') : LcW (Itr lo n) g tt te vs σ H Q := by
  have w : Wk (Itr lo n) (List.range n).length (fun _ => True) (fun i H x H' => H' = H ∧ x = .int (lo + i)) := by
    rw [List.length_range]
    exact wk_rng
  refine lc_gen (List.range n) (fun c x H => x = .int (lo + c)) w (fun i H x H' hi h => ⟨i, List.getElem?_range (by simpa using hi), by rw [h.1]; exact Same.refl _, h.2⟩) (fun _ _ => trivial) (by simpa using hn) f (fun H c y => Dp K H y (fx c)) (fun H H' c y e h => Dp.text e _ _ (hi c) h)
    (fun c x H2 S N hc s hx k1 k2 => ?_) (fun D H' ys hD s e p => q D H' ys hD s e (paired_dp p))
  subst hx
  exact hs c H2 S N (by simpa using hc) s k1 k2
/-- over range(n), one object p (a pot) being changed in each turn -/
theorem lc_rngK {n : Nat} {lo : Int} {p : Addr} {te : TE} {j : Nat} (I : Hp → Prop) (h0 : I H) (hne : ∀ D, H D = none → D ≠ p) (hI : ∀ H1 H2 : Hp, I H1 → H2 p = H1 p → I H2) (hT : ∀ H1 H2, I H1 → Keep (At p) H1 H2 → TExt H1 H2)
    (hn : n ≤ 16777216) (R : Hp → Nat → V → Prop) (hR : ∀ H H' i y, TExt H H' → R H i y → R H' i y)
    (hs : ∀ (i : Nat) H2 (S : VK), i < n → Keep (At p) H H2 → I H2 → (∀ y H3, Keep (At p) H2 H3 → I H3 → R H3 i y → S y H3) → te ((wipe σ [j]).set j (some (.int (lo + i)))) H2 S)
    (q : ∀ D H' ys, H D = none → Keep (At p) H H' → I H' → H' D = some (.lst ys) → Paired (R H') (List.range n) ys → Q (.ref D) H') : LcW (Itr lo n) (gName j) tYes te [j] σ H Q := by
  refine lc_wk wk_rng (fun D i H' => H D = none ∧ Keep (At p) H H' ∧ I H' ∧ ∃ ys, H' D = some (.lst ys) ∧ Paired (R H') (List.range i) ys)
    (fun D hD => ⟨hD, fun b o e _ => by rw [upd_ne (ne_of_none e hD)]; exact e, hI _ _ h0 (by rw [upd_ne (Ne.symm (hne D hD))]), [], by simp [upd_same], by simpa using Paired.nil⟩)
    (fun D i H' _ p => trivial) ?_ (fun D H' hD p => by obtain ⟨p1, p2, p3, ys, p4, p5⟩ := p; exact q D H' ys hD p2 p3 p4 p5)
  rintro D i x H2 H' hD hi ⟨p1, p2, p3, ys, p4, p5⟩ ⟨rfl, rfl⟩
  show wipe ((wipe σ [j]).set j _) [j] = wipe σ [j] ∧ _
  refine ⟨wipe_one, ?_⟩
  refine r_yes (i_T (hs i H' _ hi p2 p3 fun y H3 k3 i3 r3 => ⟨ys, k3 _ _ p4 (hne D hD), by rw [sizeLine_eq, ← p5.length, List.length_range]; omega, hD, ?_, hI _ _ i3 (by rw [upd_ne (Ne.symm (hne D hD))]), ys ++ [y], upd_same, ?_⟩))
  · exact (p2.trans k3).free hD
  · have e3 := k3 _ _ p4 (hne D hD)
    have t3 := hT _ _ p3 k3
    have t4 : TExt H3 (upd H3 D (.lst (ys ++ [y]))) := TExt.lst Keep.at_ e3
    rw [List.range_succ]
    exact (Paired.mapP p5 fun u z r => hR _ _ _ _ (t3.trans t4) r).snoc (hR _ _ _ _ t4 r3)
theorem paired_ex {α β : Type} {R : α → β → Prop} {f : β → PyData} : ∀ {as : List α} {ys : List V}, Paired (fun c y => ∃ z, Dp K H y (f z) ∧ R c z) as ys → ∃ zs : List β, DpAll K H ys (zs.map f) ∧ Paired R as zs
  | _, _, .nil => ⟨[], .nil, .nil⟩
  | _, _, .cons h1 h2 => by
    obtain ⟨z, d, r⟩ := h1
    obtain ⟨zs, ds, rs⟩ := paired_ex h2
    exact ⟨z :: zs, .cons d ds, .cons r rs⟩
theorem paired_right {α : Type} {P : V → Prop} : ∀ {as : List α} {ys : List V}, Paired (fun _ y => P y) as ys → ∀ y ∈ ys, P y
  | _, _, .nil, y, h => by simp at h
  | _, _, .cons h1 h2, y, h => by
    rcases List.mem_cons.mp h with rfl | h
    · exact h1
    · exact paired_right h2 y h
theorem paired_ints {α : Type} {R : α → Int → Prop} : ∀ {as : List α} {ys : List V}, Paired (fun c y => ∃ z, y = V.int z ∧ R c z) as ys → ∃ zs : List Int, ys = zs.map V.int ∧ Paired R as zs
  | _, _, .nil => ⟨[], rfl, .nil⟩
  | _, _, .cons h1 h2 => by
    obtain ⟨z, rfl, r⟩ := h1
    obtain ⟨zs, rfl, rs⟩ := paired_ints h2
    exact ⟨z :: zs, rfl, .cons r rs⟩
theorem int_at {zs : List Int} {i : Nat} {x : V} (h : (zs.map V.int)[i]? = some x) : ∃ z, zs[i]? = some z ∧ x = .int z := by
  rw [List.getElem?_map] at h
  obtain ⟨z, h1, h2⟩ := Option.map_eq_some_iff.mp h
  exact ⟨z, h1, h2.symm⟩
/-- over a tuple of data -/
theorem lc_tupD {α : Type} {as : List α} {fa : α → PyData} {ws : List V} (h1 : SqT K H a ws) (h2 : DpAll K H ws (as.map fa)) (hn : as.length ≤ 16777216) (f : α → Bool) (fx : α → PyData) (hi : ∀ c, imm (fx c) = true)
    (hs : ∀ c x H2 (S : VK) (N : Hp → Prop), c ∈ as → Same H H2 → Dp K H2 x (fa c) → (f c = true → ∀ y H3, Same H2 H3 → Dp K H3 y (fx c) → S y H3) → (f c = false → ∀ H3, Same H2 H3 → N H3) →
      g x (wipe σ vs) H2 fun σ2 H3 => wipe σ2 vs = wipe σ vs ∧ tt σ2 H3 fun b H4 => if b = true then te σ2 H4 S else N H4)
    (q : ∀ D H' ys, H D = none → Same H H' → H' D = some (.lst ys) → DpAll K H' ys ((as.filter f).map fx) → Q (.ref D) H') : LcW (Itt K a) g tt te vs σ H Q := by
  have hl : ws.length = as.length := by rw [dpAll_len h2]; simp
  have w : Wk (Itt K a) as.length (fun H' => SqT K H' a ws ∧ Same H H') (fun i H2 x H' => H' = H2 ∧ Same H H2 ∧ ws[i]? = some x) := by
    rw [← hl]
    exact ⟨fun i H e => wk_tup.go i H e.1, fun i H e => wk_tup.stop i H e.1, fun i H2 x H' e y => by have z := wk_tup.yld i H2 x H' e.1 y; exact ⟨z.1, e.2, z.2⟩⟩
  refine lc_gen as (fun c x H2 => Dp K H2 x (fa c)) w (fun i H2 x H' hi h => ?_) (fun H' s => ⟨SqT.text (TExt.of_same s) h1, s⟩) hn f (fun H c y => Dp K H y (fx c)) (fun H H' c y e h => Dp.text e _ _ (hi c) h) hs
    (fun D H' ys hD s e p => q D H' ys hD s e (paired_dp p))
  obtain ⟨rfl, s, hx⟩ := h
  obtain ⟨c, hc, hd⟩ := dpAll_map_at h2 hx
  exact ⟨c, hc, Same.refl _, Dp.same s _ _ hd⟩
/-- over a list of data -/
theorem lc_lstD {α : Type} {as : List α} {fa : α → PyData} {ws : List V} (h1 : SqL K H a ws) (h2 : DpAll K H ws (as.map fa)) (hn : as.length ≤ 16777216) (f : α → Bool) (fx : α → PyData) (hi : ∀ c, imm (fx c) = true)
    (hs : ∀ c x H2 (S : VK) (N : Hp → Prop), c ∈ as → Same H H2 → Dp K H2 x (fa c) → (f c = true → ∀ y H3, Same H2 H3 → Dp K H3 y (fx c) → S y H3) → (f c = false → ∀ H3, Same H2 H3 → N H3) →
      g x (wipe σ vs) H2 fun σ2 H3 => wipe σ2 vs = wipe σ vs ∧ tt σ2 H3 fun b H4 => if b = true then te σ2 H4 S else N H4)
    (q : ∀ D H' ys, H D = none → Same H H' → H' D = some (.lst ys) → DpAll K H' ys ((as.filter f).map fx) → Q (.ref D) H') : LcW (Itl K a) g tt te vs σ H Q := by
  have hl : ws.length = as.length := by rw [dpAll_len h2]; simp
  have w : Wk (Itl K a) as.length (fun H' => SqL K H' a ws ∧ Same H H') (fun i H2 x H' => H' = H2 ∧ Same H H2 ∧ ws[i]? = some x) := by
    rw [← hl]
    exact ⟨fun i H e => wk_list.go i H e.1, fun i H e => wk_list.stop i H e.1, fun i H2 x H' e y => by have z := wk_list.yld i H2 x H' e.1 y; exact ⟨z.1, e.2, z.2⟩⟩
  refine lc_gen as (fun c x H2 => Dp K H2 x (fa c)) w (fun i H2 x H' hi h => ?_) (fun H' s => ⟨s.seq h1, s⟩) hn f (fun H c y => Dp K H y (fx c)) (fun H H' c y e h => Dp.text e _ _ (hi c) h) hs
    (fun D H' ys hD s e p => q D H' ys hD s e (paired_dp p))
  obtain ⟨rfl, s, hx⟩ := h
  obtain ⟨c, hc, hd⟩ := dpAll_map_at h2 hx
  exact ⟨c, hc, Same.refl _, Dp.same s _ _ hd⟩
/-- over whatever is walked, one object p being changed in each turn -/
theorem lc_genK {α : Type} {p : Addr} (I : Hp → Prop) (h0 : I H) (hne : ∀ D, H D = none → D ≠ p) (hU : ∀ H1 D ys, H D = none → I H1 → (H1 D = none ∨ ∃ l, H1 D = some (.lst l)) → I (upd H1 D (.lst ys))) (hT : ∀ H1 H2, I H1 → Keep (At p) H1 H2 → TExt H1 H2)
    (as : List α) (It1 : α → V → Hp → Prop) (w : Wk J as.length src item) (hit : ∀ i H x H', i < as.length → item i H x H' → ∃ c, as[i]? = some c ∧ H' = H ∧ It1 c x H') (hsrc : ∀ H', Keep (At p) H H' → I H' → src H')
    (hn : as.length ≤ 16777216) (R : Hp → α → V → Prop) (hR : ∀ H H' c y, TExt H H' → R H c y → R H' c y)
    (hs : ∀ c x H2 (S : VK) (N : Hp → Prop), c ∈ as → Keep (At p) H H2 → I H2 → It1 c x H2 → (∀ y H3, Keep (At p) H2 H3 → I H3 → R H3 c y → S y H3) →
      g x (wipe σ vs) H2 fun σ2 H3 => wipe σ2 vs = wipe σ vs ∧ tYes σ2 H3 fun b H4 => if b = true then te σ2 H4 S else N H4)
    (q : ∀ D H' ys, H D = none → Keep (At p) H H' → I H' → H' D = some (.lst ys) → Paired (R H') as ys → Q (.ref D) H') : LcW J g tYes te vs σ H Q := by
  refine lc_wk w (fun D i H' => H D = none ∧ Keep (At p) H H' ∧ I H' ∧ ∃ ys, H' D = some (.lst ys) ∧ Paired (R H') (as.take i) ys) (fun D hD => ⟨hD, fun b o e _ => by rw [upd_ne (ne_of_none e hD)]; exact e, hU _ _ _ hD h0 (.inl hD), [], by simp [upd_same], by simpa using Paired.nil⟩)
    (fun D i H' _ p => hsrc H' p.2.1 p.2.2.1) ?_ (fun D H' hD p => by obtain ⟨p1, p2, p3, ys, p4, p5⟩ := p; rw [List.take_length] at p5; exact q D H' ys hD p2 p3 p4 p5)
  rintro D i x H2 H' hD hi ⟨p1, p2, p3, ys, p4, p5⟩ hx
  obtain ⟨c, hc, rfl, hI⟩ := hit i H2 x H' hi hx
  have hm : c ∈ as := List.mem_of_getElem? hc
  refine hs c x H' _ _ hm p2 p3 hI (fun y H3 k3 i3 r3 => ⟨ys, k3 _ _ p4 (hne D hD), by rw [sizeLine_eq, ← p5.length, List.length_take]; omega, hD, ?_, hU _ _ _ hD i3 (.inr ⟨ys, k3 _ _ p4 (hne D hD)⟩), ys ++ [y], upd_same, ?_⟩)
  · exact (p2.trans k3).free hD
  · have e3 := k3 _ _ p4 (hne D hD)
    have t3 := hT _ _ p3 k3
    have t4 : TExt H3 (upd H3 D (.lst (ys ++ [y]))) := TExt.lst Keep.at_ e3
    rw [take_snoc hc]
    exact (Paired.mapP p5 fun u z r => hR _ _ _ _ (t3.trans t4) r).snoc (hR _ _ _ _ t4 r3)
/-- over zip of two tuples of data -/
theorem lc_zipD {α β : Type} {as : List α} {bs : List β} {fa : α → PyData} {fb : β → PyData} {b : Addr} {xs ys : List V} (h1 : SqT K H a xs) (d1 : DpAll K H xs (as.map fa)) (h2 : SqT K H b ys) (d2 : DpAll K H ys (bs.map fb)) (hn : as.length ≤ 16777216)
    (f : α × β → Bool) (fx : α × β → PyData) (hi : ∀ c, imm (fx c) = true)
    (hs : ∀ c T x y H2 (S : VK) (N : Hp → Prop), c ∈ as.zip bs → Same H H2 → H2 T = some (.tup [x, y]) → Dp K H2 x (fa c.1) → Dp K H2 y (fb c.2) → (f c = true → ∀ z H3, Same H2 H3 → Dp K H3 z (fx c) → S z H3) → (f c = false → ∀ H3, Same H2 H3 → N H3) →
      g (.ref T) (wipe σ vs) H2 fun σ2 H3 => wipe σ2 vs = wipe σ vs ∧ tt σ2 H3 fun b H4 => if b = true then te σ2 H4 S else N H4)
    (q : ∀ D H' zs, H D = none → Same H H' → H' D = some (.lst zs) → DpAll K H' zs (((as.zip bs).filter f).map fx) → Q (.ref D) H') : LcW (RZ.ItzT K a b) g tt te vs σ H Q := by
  have l1 : xs.length = as.length := by rw [dpAll_len d1]; simp
  have l2 : ys.length = bs.length := by rw [dpAll_len d2]; simp
  have hl : min xs.length ys.length = (as.zip bs).length := by rw [l1, l2, List.length_zip]
  have w : Wk (RZ.ItzT K a b) (as.zip bs).length (fun H' => (SqT K H' a xs ∧ SqT K H' b ys) ∧ Same H H') (fun i H2 v H' => Same H H2 ∧ ∃ T x y, v = .ref T ∧ H2 T = none ∧ H' = upd H2 T (.tup [x, y]) ∧ xs[i]? = some x ∧ ys[i]? = some y) := by
    rw [← hl]
    exact ⟨fun i H e => wk_zipT.go i H e.1, fun i H e => wk_zipT.stop i H e.1, fun i H2 x H' e y => ⟨e.2, wk_zipT.yld i H2 x H' e.1 y⟩⟩
  refine lc_gen (as.zip bs) (fun c v H2 => ∃ T x y, v = .ref T ∧ H2 T = some (.tup [x, y]) ∧ Dp K H2 x (fa c.1) ∧ Dp K H2 y (fb c.2)) w (fun i H2 v H' hi h => ?_) (fun H' s => ⟨⟨SqT.text (TExt.of_same s) h1, SqT.text (TExt.of_same s) h2⟩, s⟩) (by rw [List.length_zip]; omega) f (fun H c y => Dp K H y (fx c)) (fun H H' c y e h => Dp.text e _ _ (hi c) h)
    (fun c v H2 S N hc s hv k1 k2 => ?_) (fun D H' ys hD s e p => q D H' ys hD s e (paired_dp p))
  · obtain ⟨s, T, x, y, rfl, hT, rfl, hx, hy⟩ := h
    obtain ⟨c, hc, hd⟩ := dpAll_map_at d1 hx
    obtain ⟨c', hc', hd'⟩ := dpAll_map_at d2 hy
    have sT : Same H2 (upd H2 T (.tup [x, y])) := Keep.same (Keep.new hT)
    exact ⟨(c, c'), by rw [List.getElem?_zip_eq_some]; exact ⟨hc, hc'⟩, sT, T, x, y, rfl, upd_same, Dp.same (s.trans sT) _ _ hd, Dp.same (s.trans sT) _ _ hd'⟩
  · obtain ⟨T, x, y, rfl, hT, hx, hy⟩ := hv
    exact hs c T x y H2 S N hc s hT hx hy k1 k2
end
theorem cx_none {P : Program} {w : World} {H : Hp} {s : Shared} {e : Value} {s' : Shared} (h : L2.CX P w [] H s (fun _ _ _ => False) e s') : False := by
  obtain ⟨_, _, _, _, _, _, _, _, _, _, _, _, z⟩ := h
  exact z.elim
/-! ### exceptions of the program's own: classes over ValueError without a body -/
def bmV : List Value := [.type "ValueError", .type "Exception", .type "BaseException", .type "object"]
structure Exc (K : PySem.W.Frag) (mg : Str → Option Value) (x : Str) (C : Addr) : Prop where
  g : mg x = some (.ref C)
  ex : PySem.W.excIn K C bmV "ValueError.__new__" = true
  kp : PySem.W.keepIn K (.ref C) = true
  bs : PySem.W.subIn K (.ref C) (.type "BaseException") = some true
  ty : PySem.W.typeIn K (.ref C) = some (.type "type")
section
variable {X : Cx} {k j : Nat} {ps : List Str} {sp : Sp} {E : XK} {x : Str} {p pos : Pos} {e : Expr} {es : List Expr} {t : TA} {C : Addr}
/-- raise X('..') -/
theorem ps_rs {W : WX} {m : Str} {jj : Nat} {p2 pos2 : Pos} (T : Exc X.K X.mg x C) (tk : Takes X W) (hc : X.calm = true := by rfl) (hg : Gl X x := by rfl) (hdb : (x == ("__debug__" : Str)) = false := by decide) :
    PS X (.Raise (some (.Call (.Name x p) [.Constant (.str m) jj p2] [] pos)) none pos2) (fun _ σ H => W (.ref C) none σ H) :=
  ps_raise hc tk (pmk_own PySem.F.excBase_ValueError T.ex T.g T.kp (raises_own T.bs T.ty) hg hdb)
/-- a call whose exception leaves this def -/
theorem pe_fnX (F : Fn X.prog X.w X.K X.mg X.base k x ps sp) (hr : Room j X.A) (tk : Takes X (fun cls d _ H => E cls d H)) (ha : PA X (e :: es) t) (hk : k ≤ j := by decide) (hg : Gl X x := by rfl)
    (hdb : (x == ("__debug__" : Str)) = false := by decide) (he : starEach (e :: es) X.env = (false, eval e X.env) :: starEach es X.env := by rfl) (hpl : (backTo pos (starEach es X.env)).any (·.1) = false := by rfl) :
    PE X (.Call (.Name x p) (e :: es) [] pos) (tFn sp E t) := pe_fnE F hr hk hg (passes_call tk fun _ _ _ _ h => h) ha hdb he hpl
end
theorem eqv_same {d : PyData} (h : SeqAt.shaped d = true) : PyData.eqv d d = true := SeqAt.eqv_refl d (SeqAt.canLay_of_shaped h)
/-- a statement, then the rest, with a word between -/
theorem r_cut {σ : St} {H : Hp} {tu tw : TS} {nx bk ct : St → Hp → Prop} {rt : VK} (Mid : St → Hp → Prop) (h : tu ⟨Mid, rt, bk, ct⟩ σ H) (k : ∀ σ' H', Mid σ' H' → tw ⟨nx, rt, bk, ct⟩ σ' H') : Evl.tCut tu tw ⟨nx, rt, bk, ct⟩ σ H := ⟨Mid, h, k⟩
/-! ### texts -/
open TL (tl tl_append mk_tl joinL tl_join join_eq)
section
variable {X : Cx} {K : PySem.W.Frag} {σ : St} {H : Hp} {Q : VK} {to te ta tb : TE} {o e : Expr} {a p : Addr}
def uJoin (K : PySem.W.Frag) : V → List V → Hp → VK → Prop := fun x xs H Q => ∃ a p, ∃ ys : List Str, x = .str a ∧ xs = [.ref p] ∧ (SqL K H p (ys.map V.str) ∨ SqT K H p (ys.map V.str)) ∧
  (ys.map (·.length)).sum + ys.length * a.length ≤ 16777216 ∧ Q (.str (Txt.join a ys)) H
theorem pe_joinU (K : PySem.W.Frag) {apos pos : Pos} (ho : PE X o to) (he : PE X e te) (hs : starEach [e] X.env = [(false, eval e X.env)] := by rfl) (hbase : attributeBase o "join" X.env (eval o X.env) = eval o X.env := by rfl) (hline : (apos.endLine == pos.line) = true := by rfl) (hK : X.K = K := by rfl) :
    PE X (.Call (.Attribute o "join" apos) [e] [] pos) (tM1 (uJoin K) to te) := hK ▸ pe_join ho he hs hbase hline
def uM1 (r : V → List V → Hp → VK → Prop) (te : TE) (σ : St) (x : V) (H : Hp) (Q : VK) : Prop := (∃ a, x = .str a) ∧ te σ H fun y H2 => r x [y] H2 Q
theorem r_m1 {r : V → List V → Hp → VK → Prop} (q : to σ H fun x H1 => uM1 r te σ x H1 Q) : tM1 r to te σ H Q := q
theorem r_m1s {r : V → List V → Hp → VK → Prop} {z : Str} (q : te σ H fun y H2 => r (.str z) [y] H2 Q) : uM1 r te σ (.str z) H Q := ⟨⟨z, rfl⟩, q⟩
theorem r_join {z : Str} {ys : List Str} (h : SqL K H p (ys.map V.str)) (hz : (ys.map (·.length)).sum + ys.length * z.length ≤ 16777216) (q : Q (.str (Txt.join z ys)) H) : uJoin K (.str z) [.ref p] H Q := ⟨z, p, ys, rfl, rfl, .inl h, hz, q⟩
def uAddS : R2 := fun x y H Q => ∃ i j, x = .str i ∧ y = .str j ∧ i.length + j.length ≤ sizeLine ∧ Q (.str (i ++ j)) H
theorem o_adds : OpR X (binaryOp .Add) uAddS := op_add_str
theorem r_adds {i j : Str} (h : i.length + j.length ≤ sizeLine) (q : Q (.str (i ++ j)) H) : uAddS (.str i) (.str j) H Q := ⟨i, j, rfl, rfl, h, q⟩
theorem tl_inj {x y : Str} (h : tl x = tl y) : x = y := by
  have := congrArg (fun l => (⟨l.toArray⟩ : Str)) h
  rw [← mk_tl x, ← mk_tl y]
  exact this
theorem len_tl (x : Str) : x.length = (tl x).length := by simp [tl, Str.length]
theorem joinL_nil : ∀ ps : List (List Nat), joinL [] ps = ps.flatten
  | [] => rfl
  | [p] => by simp [joinL]
  | p :: q :: r => by
    show p ++ ([] ++ joinL [] (q :: r)) = _
    rw [joinL_nil (q :: r)]
    simp
theorem sum_lens {B : Nat} : ∀ {l : List Str}, (∀ c ∈ l, c.length ≤ B) → (l.map (·.length)).sum ≤ l.length * B
  | [], _ => by simp
  | c :: l, h => by
    have h1 := h c (List.mem_cons_self ..)
    have h2 := sum_lens fun d hd => h d (List.mem_cons_of_mem _ hd)
    simp only [List.map_cons, List.sum_cons, List.length_cons, Nat.add_mul, Nat.one_mul]
    omega
theorem tl_join0 (ys : List Str) : tl (Txt.join ("" : Str) ys) = (ys.map tl).flatten := by
  rw [join_eq, tl_join, show tl ("" : Str) = [] by decide +kernel, joinL_nil]
theorem dpAll_strs {K : PySem.W.Frag} {H : Hp} : ∀ {ws : List V} {zs : List Str}, DpAll K H ws (zs.map PyData.str) → ws = zs.map V.str
  | _, [], .nil => rfl
  | _, n :: ns, .cons h1 h2 => by rw [dp_str h1, dpAll_strs h2]; rfl
theorem dpAll_ofStrs (K : PySem.W.Frag) (H : Hp) : ∀ zs : List Str, DpAll K H (zs.map V.str) (zs.map PyData.str)
  | [] => .nil
  | n :: ns => .cons (.str n) (dpAll_ofStrs K H ns)
end
/-! ### range with a step -/
section
variable {X : Cx} {σ : St} {H : Hp} {tg a b c : Expr} {ta : TA}
def uRng3 (vs : List V) (H : Hp) (R : It → Hp → Prop) : Prop := ∃ (i j c : Int) (n : Nat), vs = [.int i, .int j, .int c] ∧ RgC i j c n ∧ R (Itc i c n) H
def iRngU (ta : TA) : TI := fun σ H R => ta σ H fun vs H1 => uRng3 vs H1 R
theorem pi_rangeU {p pos : Pos} (hg : Gl X "range") (hm : X.mg "range" = none) (ha : PA X [a, b, c] ta)
    (hs : starEach [a, b, c] X.env = (false, eval a X.env) :: starEach [b, c] X.env := by rfl) (hpl : (backTo pos (starEach [b, c] X.env)).any (·.1) = false := by rfl) :
    PI X tg (.Call (.Name "range" p) [a, b, c] [] pos) (iRngU ta) := pi_range3 hg hm ha hs hpl
theorem r_irngU {R : It → Hp → Prop} (q : ta σ H fun vs H1 => uRng3 vs H1 R) : iRngU ta σ H R := q
theorem r_rngdown {i j : Int} {R : It → Hp → Prop} (h : -1000000 ≤ i ∧ i ≤ 1000000 ∧ -1000000 ≤ j ∧ j ≤ 1000000) (q : R (Itc i (-1) (i - j).toNat) H) : uRng3 [.int i, .int j, .int (-1)] H R :=
  ⟨i, j, -1, _, rfl, RgC.neg (by omega) (by omega) (by omega) (by omega), q⟩
end
/-! ### shifts -/
def uShl : R2 := fun x y H Q => ∃ (i : Int) (k : Nat), x = .int i ∧ y = .int (k : Int) ∧ CShl i (k : Int) ∧ Q (.int (i * 2 ^ k)) H
def uShr : R2 := fun x y H Q => ∃ (i : Int) (k : Nat), x = .int i ∧ y = .int (k : Int) ∧ Q (.int (i / 2 ^ k)) H
theorem o_shl {X : Cx} : OpR X (binaryOp .LShift) uShl := op_shlN
theorem o_shr {X : Cx} : OpR X (binaryOp .RShift) uShr := op_shrN
theorem r_shl {i : Int} {k : Nat} {H : Hp} {Q : VK} (h : i.natAbs < 2 ^ 64 ∧ k ≤ 1000) (q : Q (.int (i * 2 ^ k)) H) : uShl (.int i) (.int (k : Int)) H Q := ⟨i, k, rfl, rfl, shl_ok h.1 (by omega), q⟩
theorem r_shl1 {k : Nat} {H : Hp} {Q : VK} (h : k ≤ 1000) (q : Q (.int (2 ^ k)) H) : uShl (.int 1) (.int (k : Int)) H Q := r_shl ⟨by decide, h⟩ (by rw [Int.one_mul]; exact q)
theorem r_shl2 {k : Nat} {H : Hp} {Q : VK} (h : k ≤ 1000) (q : Q (.int (2 ^ (k + 1))) H) : uShl (.int 2) (.int (k : Int)) H Q := r_shl ⟨by decide, h⟩ (by
  have e : (2 : Int) * 2 ^ k = 2 ^ (k + 1) := by rw [Int.pow_succ]; omega
  rw [e]; exact q)
theorem r_shr {i : Int} {k : Nat} {H : Hp} {Q : VK} (q : Q (.int (i / 2 ^ k)) H) : uShr (.int i) (.int (k : Int)) H Q := ⟨i, k, rfl, rfl, q⟩
/-! ### numbers -/
theorem two_pos (n : Nat) : (0 : Int) < 2 ^ n := Int.pow_pos (by decide)
theorem two_succ (n : Nat) : (2 : Int) ^ (n + 1) = 2 * 2 ^ n := by rw [Int.pow_succ]; omega
theorem div_is {x w i : Int} (hw : 0 < w) (h1 : i * w ≤ x) (h2 : x < i * w + w) : x / w = i := by
  have a : i ≤ x / w := (Int.le_ediv_iff_mul_le hw).mpr h1
  have b : x / w < i + 1 := (Int.ediv_lt_iff_lt_mul hw).mpr (by rw [Int.add_mul, Int.one_mul]; exact h2)
  omega
end Fp
/-! a list comprehension out of whose element an exception may leave (after HandS.Comp's own rule for one that lets none out) -/
namespace Fp
open PySem PySem.Spec PyProof.Rows L2
section
variable {X : Cx} {pins : List (Addr × Obj)} {σ : L2.St} {H : Hp} {s s' : Shared} {E : XK} {W : WX}
/-- a call's exception, in flight: the state without it -/
theorem call_air (I : Inv X pins σ H s) {u : Value} (c : L2.CX X.prog X.w X.stack H s E u s') :
    ∃ (a : Addr) (B : Heap) (sI : Shared) (H' : Hp) (cls : Value) (d : Option Addr), u = .ref a ∧ Inv X pins σ H' sI ∧ (∀ b o, sI.heap.get? b = some o → b ∉ frs X.stack → B.get? b = some o) ∧ sI.heap.UpToSlots s'.heap ∧
      HandSPX.FlyingZ B X.stack a (Zc cls d) s'.heap ∧ H' a = none ∧ s'.os = sI.os ∧ AllBare s'.gens ∧ E cls d H' := by
  obtain ⟨a, B, H', cls, d, rfl, fl, hok, ub, na, os, ag, hE⟩ := c
  obtain ⟨G, g1, g2⟩ := restrict s'.heap fun b => (B.get? b).isSome || decide (b ∈ frs X.stack)
  have st : B.StaysIn s'.heap := fl.1
  have gB : ∀ b o, B.get? b = some o → G.get? b = some o := fun b o e => by
    rw [g1 b (by simp [e])]
    exact st b o e
  have gF : ∀ b, b ∈ frs X.stack → G.get? b = s'.heap.get? b := fun b hb => g1 b (by simp [hb])
  have og : ∀ b o, G.get? b = some o → s'.heap.get? b = some o ∧ ((B.get? b).isSome = true ∨ b ∈ frs X.stack) := fun b o e => by
    cases q : ((B.get? b).isSome || decide (b ∈ frs X.stack)) with
    | false => rw [g2 b q] at e; cases e
    | true =>
      rw [g1 b q] at e
      exact ⟨e, by simpa [Bool.or_eq_true] using q⟩
  refine ⟨a, B, { s with heap := G, gens := s'.gens, drawn := s'.drawn, toks := s'.toks }, H', cls, d, rfl, ?_, fun b o e hb => ?_, Heap.UpToSlots.of_keeps fun b o e => (og b o e).1, fl, na, os, ag, hE⟩
  · refine I.call (ch := []) ⟨fun b o e n hb _ => gB b o (ub.keep b o e n hb), fun b o e n hb _ => ?_, fun b o e n _ => ub.free b o e n, fun b o e _ => ?_, ub.tups, ub.frzs, ub.tbls⟩ (hok.kept gB) ag (fun _ z => nomatch z)
    · obtain ⟨sl, q⟩ := ub.slot b o e hb
      exact ⟨sl, by rw [gF b hb]; exact q⟩
    · by_cases hb : b ∈ frs X.stack
      · obtain ⟨sl, q⟩ := ub.slot b o e hb
        exact ⟨_, by rw [gF b hb]; exact q⟩
      · obtain ⟨o', q⟩ := ub.there b o e hb
        exact ⟨o', gB b o' q⟩
  · obtain ⟨e', h⟩ := og b o e
    rcases h with h | h
    · obtain ⟨o', q⟩ := Option.isSome_iff_exists.mp h
      have z := st b o' q
      rw [e'] at z; cases z
      exact q
    · exact absurd h hb
abbrev blkE (X : Cx) (s : Shared) (H : Hp) (scope : Scope) (ce : Env) (fp : List Addr) (xe : Value → Shared → Prop) : Cx := (X.blk s H scope ce fp).wish xe
/-- what a raise out of the block owes -/
abbrev outX (X : Cx) (ce : Env) : Value → Shared → Prop := notedBy (model X.prog X.w) X.A ce (CompFails (model X.prog X.w) X.A X.xe ce)
theorem passes_out {H3 : Hp} {s3 : Shared} {scope : Scope} {ce : Env} {fp : List Addr} (tk : Takes X W) (hW : ∀ cls d H, E cls d H → W cls d σ H) (hs : X.stack = X.env :: X.outer) (hf : X.env.frame = some X.env.locals)
    (I3 : Inv X pins σ H3 s3) (f3 : ∀ b ∈ fp, FpOk X pins H3 b ∧ b < s3.heap.objs.size) (cL : ce.locals = s3.heap.objs.size) (cF : ce.frame = X.env.frame) :
    Passes (L2.CX X.prog X.w) (blkE X s3 H3 scope ce fp (outX X ce)) E := by
  intro pins' σ' H s u s' I c
  obtain ⟨a, B, sI, H', cls, d, rfl, I5, nb, up, fl, na, os, ag, hE⟩ := call_air I c
  have fl : HandSPX.FlyingZ B X.stack a (Zc cls d) s'.heap := fl
  have nb : ∀ b o, sI.heap.get? b = some o → b ∉ frs X.stack → B.get? b = some o := nb
  have I7 : Inv X pins σ H' sI := I3.call' (ch := fp) I5.os I5.base I5.hok I5.bare fun b hb => ⟨(f3 b hb).1.2.2.2.1, (f3 b hb).1.2.1, (f3 b hb).1.2.2.2.2.1, (f3 b hb).1.2.2.2.2.2⟩
  have nC : H' ce.locals = none := I5.free
  have fC : FpOk X pins H' ce.locals := I3.fpOk (by rw [cL]; exact Nat.le_refl _) nC
  obtain ⟨f0, f1, f2, f3', f4, f5⟩ := fC
  obtain ⟨m, hn, _⟩ := I5.loc
  have hn : sI.heap.Ns ce.locals m := hn
  have I8 : Inv X pins σ H' { sI with heap := PySem.W.hideAll sI.heap [ce.locals], toks := sI.toks } := I7.turned (t' := sI.toks) (fun b o hb e => PySem.W.hideAll_get _ e (by simpa using hb)) f0 f1 f3' f4 f5
  have hidC : ∀ {h : Heap} {b : Addr} {o : Obj}, (PySem.W.hideAll h [ce.locals]).get? b = some o → b ≠ ce.locals := fun {h b o} e z => by
    rw [z, PySem.W.hideAll_none _ (by simp)] at e
    cases e
  have hidN : ∀ {h : Heap} {b : Addr}, h.get? b = none → (PySem.W.hideAll h [ce.locals]).get? b = none := fun {h b} e => by
    cases q : (PySem.W.hideAll h [ce.locals]).get? b with
    | none => rfl
    | some o =>
      have z := PySem.W.of_hideAll _ q
      rw [e] at z; cases z
  obtain ⟨b1, b0, bF, bT⟩ := fl
  have fl' : HandSPX.FlyingZ (PySem.W.hideAll B [ce.locals]) (X.env :: X.outer) a (Zc cls d) s'.heap := by
    refine ⟨fun b o e => b1 b o (PySem.W.of_hideAll _ e), hidN b0, ?_, ?_⟩
    · rw [← hs]
      exact funFrames_none bF fun L hL => hidN (bF.mem hL).1
    · obtain ⟨oe, vs, T, oT, ts, he, hz, hd, h1, hnT, r⟩ := bT
      exact ⟨oe, vs, T, oT, ts, he, hz, hd, h1, hidN hnT, r⟩
  show wpAny _ _ (noteFrame (.ref a) ce) _ _ s'
  rw [noteFrame_env _ cF]
  refine HandSPX.looks_onZ Zc.steady (by rw [I3.ok.frames, hs]) hf fl' fun h1 hh up1 => ?_
  have upA := Heap.UpToSlots.trans up up1
  refine ⟨m, hn.upToSlots fun b o e hnf => upA b o e hnf, fun h2 m2 hn2 sb => ?_⟩
  have hn1 : h1.Ns ce.locals m := hn.upToSlots fun b o e hnf => upA b o e hnf
  obtain ⟨k1, k2, k3, k4⟩ := hh
  have k1' : (PySem.W.hideAll B [ce.locals]).StaysIn h2 := fun b o e => (sb.2 b (hidC e)).trans (k1 b o e)
  have k3' := Heap.FunFrames.sameBut sb hn2 k3
  have noC : ∀ {b : Addr} {o : Obj} {vs : Array Value}, h1.get? b = some o → o.data = .fields vs → b ≠ ce.locals := fun {b o vs} e hd z => by
    obtain ⟨oL, es, ep, ho, hdL, _⟩ := hn1
    rw [z, ho] at e
    cases e
    rw [hdL] at hd
    cases hd
  obtain ⟨oe, vs, T, oT, ts, he, hz, hd, h1v, hnT, hTe, hT, hdT, h3v⟩ := k4
  have he2 : h2.get? a = some oe := (sb.2 a (noC he hd)).trans he
  have hT2 : h2.get? T = some oT := (sb.2 T (noC hT hdT)).trans hT
  unfold PySem.passOn
  refine wpAny_bind (wpAny_field he2 hd h1v ?_)
  rw [if_neg (show ¬ ((Value.ref T == Value.none) = true) from by simp)]
  rw [cF, hf]
  refine wpAny_bind (HandSPX.setFlight_anyZ (fr := some X.env.locals) k1' k3' ⟨oe, vs, T, oT, ts, he2, hz, hd, h1v, hnT, hTe, hT2, hdT, h3v⟩ fun h3 j1 j3 j4 up3 => ?_)
  refine wpAny_throw ?_
  have upB : (PySem.W.hideAll sI.heap [ce.locals]).UpToSlots h2 := fun b o e hnf => by
    obtain ⟨sl, e2⟩ := upA b o (PySem.W.of_hideAll _ e) hnf
    exact ⟨sl, (sb.2 b (hidC e)).trans e2⟩
  refine tk _ _ ⟨a, PySem.W.hideAll B [ce.locals], { sI with heap := PySem.W.hideAll sI.heap [ce.locals], toks := sI.toks }, pins, σ, H', cls, d, rfl, I8, fun b o e hb => ?_, Heap.UpToSlots.trans upB up3, .inr (.inr ⟨j1, k2, by rw [hs]; exact j3, j4⟩), na, os, ag, hW _ _ _ hE⟩
  exact PySem.W.hideAll_get _ (nb b o (PySem.W.of_hideAll _ e) hb) (by simpa using hidC e)
/-- [elt for target in iter if ..], elt may raise -/
theorem pe_lcX {elt tg iter : Expr} {ifs : List Expr} {scope : Scope} {own : List (Str × Nat)} {pos : Pos} {wi : TI} {g : TG} {tt : TT} {te : TE} (tk : Takes X (fun cls d _ H => E cls d H)) (hst : X.stack = X.env :: X.outer) (hfr : X.env.frame = some X.env.locals)
    (hc : X.calm = true) (hN : X.N.Nodup) (hi : PI X tg iter wi) (ok : BlkOk X.N X.env.scope scope own)
    (hg : ∀ (s : Shared) (H : Hp) (C : Addr) (cl : List (Str × Addr)) (fp : List Addr) (xe : Value → Shared → Prop), PG (blkE X s H scope (compEnvC scope cl C X.env) fp xe) tg g)
    (ht : ∀ (s : Shared) (H : Hp) (C : Addr) (cl : List (Str × Addr)) (fp : List Addr) (xe : Value → Shared → Prop), PTs (blkE X s H scope (compEnvC scope cl C X.env) fp xe) ifs tt)
    (he : ∀ (s : Shared) (H : Hp) (C : Addr) (cl : List (Str × Addr)) (fp : List Addr) (xe : Value → Shared → Prop), Passes (L2.CX X.prog X.w) (blkE X s H scope (compEnvC scope cl C X.env) fp xe) E → PE (blkE X s H scope (compEnvC scope cl C X.env) fp xe) elt te)
    (hs : ∀ x, foldedSetIterable iter X.env x = pure x := by intro _; rfl) :
    PE X (.ListComp elt [⟨tg, iter, ifs, 0⟩] scope pos) (tLc wi g tt te (own.map (·.2))) := by
  refine ⟨fun pins s σ H Q I h => ?_⟩
  rw [eval_ListComp]
  have hRR : ∀ D C s' m H', Inv X pins σ H' s' → Q (.ref D) H' → s'.heap.Ns C m → FpOk X pins H' C → ∃ m, s'.heap.Ns C m ∧ ∀ h', Heap.SameBut C s'.heap h' → EP X pins σ Q (.ref D) { s' with heap := h' } := fun D C s' m H' I' q hn f => ⟨m, hn, fun h'' sb => by
    obtain ⟨f0, f1, f2, f3, f4, f5⟩ := f
    exact ⟨.ref D, H', I'.turned (t' := s'.toks) (fun b o hb e => (sb.2 b hb).trans e) f0 f1 f3 f4 f5, rfl, q⟩⟩
  have hfree : ∀ y ∈ scope.names, y.2 = .free → ∃ c, X.env.cells.lookup y.1 = some c := fun y hy e => by
    rcases ok.free y hy e with k | k
    · exact I.ok.has _ (.inl k)
    · exact I.ok.has _ (.inr k)
  refine comprehension_at (use := none) rfl hs (closure_ok hfree) ok.kind (fun y hy e => by rw [ok.uniq y hy, e])
    (thn (hi.run pins s σ H _ I h) fun xv s1 hx => thn hx fun itv s2 h2 => ?_)
  obtain ⟨it, fp, tn, J, H2, e, I2, T, st2, f2, q⟩ := h2
  subst e
  refine wpAny_newObj_type (newEnv_comp ?_) (by show 0 ≤ sizeLine; decide)
  generalize hD : s2.heap.objs.size = D
  have hDn : H2 D = none := I2.hok.fresh (Nat.le_of_eq hD)
  obtain ⟨Wm, ⟨m0, w0⟩, turn⟩ := q D hDn
  -- the new list
  generalize hs3 : ({ s2 with heap := s2.heap.push { cls := .type "list", data := .seq ([] : List Value).toArray } } : Shared) = s3
  have I3 : Inv X pins σ (upd H2 D (.lst [])) s3 := by
    rw [← hs3]
    refine I2.laid (t' := s2.toks) (fun b o e => Heap.get?_push_of_some _ e) (Nat.le_of_eq hD) ⟨Nat.zero_le _, [], 0, .nil, ?_⟩
    rw [← hD]
    exact Heap.get?_push_size _ rfl
  have h3 : s3.heap = s2.heap.push { cls := .type "list", data := .seq ([] : List Value).toArray } := by rw [← hs3]
  have sz : ∀ b ∈ fp, b < s2.heap.objs.size := fun b hb => by
    obtain ⟨o, e, _⟩ := T.obj _ _ st2 b hb
    exact Heap.lt_size e
  have f3 : ∀ b ∈ fp, FpOk X pins (upd H2 D (.lst [])) b ∧ b < s3.heap.objs.size := fun b hb => by
    have hlt := sz b hb
    refine ⟨⟨?_, (f2 b hb).2⟩, by rw [h3, Heap.size_push]; exact Nat.lt_succ_of_lt hlt⟩
    rw [upd_ne (by rw [← hD]; exact Nat.ne_of_lt hlt)]
    exact (f2 b hb).1
  have st3 : tn 0 s3.heap := T.keep _ _ _ st2 fun b _ o e => by rw [h3]; exact Heap.get?_push_of_some _ e
  have I4 := block_start I3 ok hN f3
  have pg := hg s3 (upd H2 D (.lst [])) s3.heap.objs.size (cellsFrom (s3.heap.objs.size + 1) scope.names (cloFrom X.env.cells scope.names [])) fp
  have pt := ht s3 (upd H2 D (.lst [])) s3.heap.objs.size (cellsFrom (s3.heap.objs.size + 1) scope.names (cloFrom X.env.cells scope.names [])) fp
  have pe := he s3 (upd H2 D (.lst [])) s3.heap.objs.size (cellsFrom (s3.heap.objs.size + 1) scope.names (cloFrom X.env.cells scope.names [])) fp
  show codeAny _ _ (.compStart (.ListComp elt [⟨tg, iter, ifs, 0⟩] scope pos) 0 (.ref it) (.ref D) (compEnvC scope (cellsFrom (s3.heap.objs.size + 1) scope.names (cloFrom X.env.cells scope.names [])) s3.heap.objs.size X.env)) (compEnds (model X.prog X.w) X.A X.xe none (EP X pins σ Q) (.ref D) (compEnvC scope (cellsFrom (s3.heap.objs.size + 1) scope.names (cloFrom X.env.cells scope.names [])) s3.heap.objs.size X.env)) { s3 with heap := pushCells (s3.heap.push { cls := .type "dict", data := .dict #[] }) scope.names }
  have nfp : ∀ b ∈ fp, (upd H2 D (.lst [])) b = none := fun b hb => (f3 b hb).1.1
  generalize hce : compEnvC scope (cellsFrom (s3.heap.objs.size + 1) scope.names (cloFrom X.env.cells scope.names [])) s3.heap.objs.size X.env = ce at I4 pg pt pe ⊢
  have cL : ce.locals = s3.heap.objs.size := by subst hce; rfl
  have cF : ce.frame = X.env.frame := by subst hce; rfl
  generalize hH3 : upd H2 D (.lst []) = H3 at I3 I4 pg pt pe w0 nfp f3
  have ps := passes_out (scope := scope) (fp := fp) tk (fun _ _ _ h => h) hst hfr I3 f3 cL cF
  have I4 := I4.wish (outX X ce)
  have pg := pg (outX X ce)
  have pt := pt (outX X ce)
  have pe := pe (outX X ce) ps
  generalize hs4 : ({ s3 with heap := pushCells (s3.heap.push { cls := .type "dict", data := .dict #[] }) scope.names } : Shared) = s4 at I4 ⊢
  have st4 : tn 0 s4.heap := T.keep _ _ _ st3 fun b _ o e => by rw [← hs4]; exact pushCells_keeps _ _ _ _ (Heap.get?_push_of_some _ e)
  have stat : ∀ {σ' : L2.St} {H' : Hp} {s' : Shared}, Inv (blkE X s3 H3 scope ce fp (outX X ce)) [] σ' H' s' → (∀ b ∈ fp, H' b = none) → ∀ b ∈ fp, FpOk (blkE X s3 H3 scope ce fp (outX X ce)) [] H' b := fun {σ' H' s'} I' hn b hb =>
    ⟨hn b hb, (I'.ok.exf b hb).1, I'.ok.exfs b hb, .inl hb, fun x c e => (I'.ok.exf b hb).2 x c e, fun p hp => absurd (show p ∈ ([] : List (Addr × Obj)) ++ [] from hp) (by simp)⟩
  have loop : codeAny (model X.prog X.w) X.A (.compLoop (.ListComp elt [⟨tg, iter, ifs, 0⟩] scope pos) 0 (.ref it) (.ref D) ce) (compEnds (model X.prog X.w) X.A X.xe none (EP X pins σ Q) (.ref D) ce) s4 := by
    refine compLoop_any (fun n s' => ∃ i H', Inv (blkE X s3 H3 scope ce fp (outX X ce)) [] (wipe σ (own.map (·.2))) H' s' ∧ tn i s'.heap ∧ (∀ b ∈ fp, H' b = none) ∧ Wm i n H') ?_ m0 ⟨0, H3, I4, st4, nfp, w0⟩
    rintro n s5 ⟨i, H5, I5, st5, n5, w5⟩
    rcases turn i n H5 w5 with ⟨stop, qq⟩ | ⟨go, Nx, hNx, step⟩
    · have td := T.done (blkE X s3 H3 scope ce fp (outX X ce)) rfl rfl rfl hc i [] s5 _ H5 (fun _ _ => False) I5 (stat I5 n5) st5 stop
      refine thnF td fun r s6 ⟨hr, I6⟩ => ?_
      subst hr
      -- back in the def's context
      have I7 : Inv X pins σ H5 s6 := I3.call' (ch := fp) I6.os I6.base I6.hok I6.bare fun b hb => ⟨(f3 b hb).1.2.2.2.1, (f3 b hb).1.2.1, (f3 b hb).1.2.2.2.2.1, (f3 b hb).1.2.2.2.2.2⟩
      have nC : H5 s3.heap.objs.size = none := by
        have z : H5 ce.locals = none := I6.free
        rw [cL] at z
        exact z
      obtain ⟨m, hn, _⟩ := I6.loc
      have hn : s6.heap.Ns ce.locals m := hn
      have R := hRR D s3.heap.objs.size s6 m H5 I7 qq (by rw [← cL]; exact hn) (I3.fpOk (Nat.le_refl _) nC)
      rw [← cL] at R
      exact R
    · have ti := T.item (blkE X s3 H3 scope ce fp (outX X ce)) rfl rfl rfl hc i [] s5 _ H5 (fun _ _ => False) I5 (stat I5 n5) st5 go
      refine thnF ti fun r s6 ⟨u, hr, h6⟩ => ?_
      subst hr
      refine thnF h6 fun _ s7 ⟨x, H7, I7, r7, y7, st7, n7⟩ => ?_
      have I7' := I7.pinned (stat I7 n7) (T.obj _ _ st7)
      refine thn (pg.run _ s7 _ H7 x u _ I7' r7 (step x H7 y7)) fun _ s8 ⟨σ8, H8, I8, hw8, q8⟩ => ?_
      refine thn (pt.run _ s8 σ8 H8 _ I8 q8) fun b s9 ⟨H9, I9, q9⟩ => ?_
      -- the turn's end
      have fin : ∀ {s' : Shared} {H' : Hp}, Inv (blkE X s3 H3 scope ce fp (outX X ce)) ([] ++ pinsAt fp s7.heap) σ8 H' s' → Nx H' → ∃ m, m < n ∧ ∃ i H', Inv (blkE X s3 H3 scope ce fp (outX X ce)) [] (wipe σ (own.map (·.2))) H' s' ∧ tn i s'.heap ∧ (∀ b ∈ fp, H' b = none) ∧ Wm i m H' := fun {s' H'} I' nx => by
        obtain ⟨m', hm, w'⟩ := hNx H' nx
        have pin' : ∀ b ∈ fp, ∀ o, s7.heap.get? b = some o → s'.heap.get? b = some o ∧ H' b = none := fun b hb o e =>
          let z := I'.pin (b, o) (List.mem_append_right _ (List.mem_append_right _ (mem_pinsAt hb e)))
          ⟨z.1, z.2.1⟩
        have hl : (wipe σ (own.map (·.2))).length = σ8.length := by rw [← hw8, wipe_length]
        refine ⟨m', hm, i + 1, H', (I'.unpinned (pins := [])).weak hl (fun j v e => ?_), T.keep _ _ _ st7 fun b hb o e => (pin' b hb o e).1, fun b hb => ?_, w'⟩
        · rw [← hw8] at e
          exact (wipe_some e).1
        · obtain ⟨o, e, _⟩ := T.obj _ _ st7 b hb
          exact (pin' b hb o e).2
      cases b with
      | false =>
        simp only [Bool.false_eq_true, if_false] at q9 ⊢
        exact fin I9 q9
      | true =>
        simp only [if_true] at q9 ⊢
        refine thn (pe.run _ s9 σ8 H9 _ I9 q9) fun z s10 ⟨yv, H10, I10, r10, acc, hD10, hz10, nx⟩ => ?_
        exact app_ok (X := blkE X s3 H3 scope ce fp (outX X ce)) I10 hD10 hz10 r10 fun s11 I11 => fin I11 nx
  exact codeAny_compStart_list loop (T.self X.A 0 _ _ _ st4 loop)
end
end Fp
/-! pairs of numbers, curves: plain lists; dicts by number -/
namespace Fp
open PySem PySem.Spec PyProof.Rows L2
abbrev Prs := List (Int × Int)
def pairP (p : Int × Int) : PyData := .tuple [.int p.1, .int p.2]
def prsD (l : Prs) : PyData := .tuple (l.map pairP)
theorem imm_pair (p : Int × Int) : imm (pairP p) = true := by simp [pairP, imm, immAll]
theorem imm_all (l : Prs) : immAll (l.map pairP) = true := immAll_map _ imm_pair l
theorem imm_prs (l : Prs) : imm (prsD l) = true := by
  unfold prsD
  simp only [imm]
  exact imm_all l
theorem shp_pair (p : Int × Int) : Shp 1 (pairP p) := Shp.t2 (.int _) (.int _)
theorem shp_prs (l : Prs) : Shp 2 (prsD l) := Shp.tupleM (n := 1) shp_pair
theorem shaped_prs (l : Prs) : SeqAt.shaped (prsD l) = true := (shp_prs l).ok
theorem dp_pair {K : PySem.W.Frag} {H : Hp} {v : V} {p : Int × Int} (h : Dp K H v (pairP p)) : ∃ a, v = .ref a ∧ SqT K H a [.int p.1, .int p.2] := dp_ints (ns := [p.1, p.2]) h
theorem dp_of_pair {K : PySem.W.Frag} {H : Hp} {a : Addr} {i j : Int} (h : SqT K H a [.int i, .int j]) : Dp K H (.ref a) (pairP (i, j)) := .tup h (dpAll_ints K H [i, j])
theorem eqv_pair (p q : Int × Int) : PyData.eqv (pairP p) (pairP q) = decide (p = q) := by
  simp only [pairP, PyData.eqv, PyData.eqvAll, Bool.and_true]
  rw [Bool.eq_iff_iff]
  simp [Prod.ext_iff]
theorem eqvAll_prs : ∀ l m : Prs, PyData.eqvAll (l.map pairP) (m.map pairP) = decide (l = m)
  | [], [] => by simp [PyData.eqvAll]
  | [], q :: m => by simp [PyData.eqvAll]
  | p :: l, [] => by simp [PyData.eqvAll]
  | p :: l, q :: m => by
    simp only [List.map_cons, PyData.eqvAll]
    rw [eqv_pair, eqvAll_prs l m, Bool.eq_iff_iff]
    simp
theorem eqv_prs (l m : Prs) : PyData.eqv (prsD l) (prsD m) = decide (l = m) := by
  unfold prsD
  rw [PyData.eqv]
  exact eqvAll_prs l m
/-! ### tables by number -/
def putP (l : Prs) (t h : Int) : Prs := if (l.any fun p => decide (p.1 = t)) = true then l.map (fun p => if p.1 = t then (p.1, h) else p) else l ++ [(t, h)]
def valP (l : Prs) (t : Int) : Option Int := (l.find? fun p => decide (p.1 = t)).map (·.2)
def mergeP (l more : Prs) : Prs := more.foldl (fun acc p => putP acc p.1 p.2) l
def inj (p : Int × Int) : Key × V := (Sum.inl p.1, .int p.2)
theorem any_inj (t : Int) : ∀ l : Prs, ((l.map inj).any fun kv => decide (kv.1 = Sum.inl t)) = l.any fun p => decide (p.1 = t)
  | [] => rfl
  | p :: l => by
    simp only [List.map_cons, List.any_cons, any_inj t l]
    congr 1
    rw [Bool.eq_iff_iff]
    simp [inj]
theorem put_inj (l : Prs) (t h : Int) : putK (l.map inj) (Sum.inl t) (.int h) = (putP l t h).map inj := by
  unfold putK putP
  rw [any_inj]
  split
  · rw [List.map_map, List.map_map]
    refine List.map_congr_left fun p _ => ?_
    show (if (inj p).1 = Sum.inl t then ((inj p).1, V.int h) else inj p) = inj (if p.1 = t then (p.1, h) else p)
    by_cases e : p.1 = t
    · rw [if_pos e, if_pos (by rw [← e]; rfl)]; rfl
    · rw [if_neg e, if_neg (by simpa [inj] using e)]
  · rw [List.map_append]; rfl
theorem merge_inj : ∀ (more l : Prs), mergeK (l.map inj) (more.map inj) = (mergeP l more).map inj
  | [], l => rfl
  | p :: r, l => by
    show mergeK (putK (l.map inj) (inj p).1 (inj p).2) (r.map inj) = (mergeP (putP l p.1 p.2) r).map inj
    rw [show putK (l.map inj) (inj p).1 (inj p).2 = (putP l p.1 p.2).map inj from put_inj l p.1 p.2]
    exact merge_inj r _
theorem val_inj (t : Int) : ∀ l : Prs, valV (l.map inj) (Sum.inl t) = (valP l t).map V.int
  | [] => rfl
  | p :: l => by
    by_cases e : p.1 = t
    · rw [List.map_cons, valV_pos (by rw [← e]; rfl)]
      simp [valP, List.find?_cons, e, inj]
    · rw [List.map_cons, valV_neg (by simpa [inj] using e), val_inj t l]
      simp [valP, List.find?_cons, e]
theorem valP_pos {p : Int × Int} {r : Prs} {k : Int} (e : p.1 = k) : valP (p :: r) k = some p.2 := by simp [valP, List.find?_cons, e]
theorem valP_neg {p : Int × Int} {r : Prs} {k : Int} (e : ¬ p.1 = k) : valP (p :: r) k = valP r k := by simp [valP, List.find?_cons, e]
theorem valP_iff {t h : Int} : ∀ {l : Prs}, (l.map (·.1)).Nodup → (valP l t = some h ↔ (t, h) ∈ l)
  | [], _ => by simp [valP]
  | p :: l, nd => by
    have nd2 := List.nodup_cons.mp nd
    by_cases e : p.1 = t
    · rw [valP_pos e]
      constructor
      · intro z
        have z := Option.some.inj z
        rw [List.mem_cons]
        left
        rw [← e, ← z]
      · intro z
        rcases List.mem_cons.mp z with z | z
        · rw [← z]
        · exact absurd (show p.1 ∈ l.map (·.1) by rw [e]; exact List.mem_map_of_mem (f := (·.1)) z) nd2.1
    · rw [valP_neg e, valP_iff nd2.2]
      constructor
      · exact fun z => List.mem_cons_of_mem _ z
      · intro z
        rcases List.mem_cons.mp z with z | z
        · exact absurd (by rw [← z]) e
        · exact z
theorem any_iff {l : Prs} {t : Int} : (l.any fun p => decide (p.1 = t)) = true ↔ t ∈ l.map (·.1) := by
  simp only [List.any_eq_true, decide_eq_true_eq, List.mem_map]
theorem keys_put (l : Prs) (t h : Int) : (putP l t h).map (·.1) = if t ∈ l.map (·.1) then l.map (·.1) else l.map (·.1) ++ [t] := by
  unfold putP
  by_cases e : t ∈ l.map (·.1)
  · rw [if_pos e, if_pos (any_iff.mpr e), List.map_map]
    refine List.map_congr_left fun p _ => ?_
    show (if p.1 = t then (p.1, h) else p).1 = p.1
    split <;> rfl
  · rw [if_neg e, if_neg (fun z => e (any_iff.mp z)), List.map_append]; rfl
theorem nd_put {l : Prs} (t h : Int) (nd : (l.map (·.1)).Nodup) : ((putP l t h).map (·.1)).Nodup := by
  rw [keys_put]
  split
  · exact nd
  · rename_i e
    rw [List.nodup_append]
    exact ⟨nd, by simp, fun a ha b hb => by simp at hb; subst hb; exact fun z => e (z ▸ ha)⟩
theorem nd_merge : ∀ (more l : Prs), (l.map (·.1)).Nodup → ((mergeP l more).map (·.1)).Nodup
  | [], l, nd => nd
  | p :: r, l, nd => nd_merge r _ (nd_put p.1 p.2 nd)
theorem mem_put {l : Prs} {t h : Int} {p : Int × Int} : p ∈ putP l t h ↔ (p = (t, h)) ∨ (p ∈ l ∧ p.1 ≠ t) := by
  unfold putP
  split
  · rename_i e
    obtain ⟨q, hq, e⟩ := List.any_eq_true.mp e
    have e : q.1 = t := of_decide_eq_true e
    rw [List.mem_map]
    constructor
    · rintro ⟨x, hx, rfl⟩
      by_cases z : x.1 = t
      · rw [if_pos z, z]; exact .inl rfl
      · rw [if_neg z]; exact .inr ⟨hx, z⟩
    · rintro (rfl | ⟨h1, h2⟩)
      · exact ⟨q, hq, by rw [if_pos e, e]⟩
      · exact ⟨p, h1, if_neg h2⟩
  · rename_i e
    rw [List.mem_append, List.mem_singleton]
    constructor
    · rintro (h1 | h1)
      · exact .inr ⟨h1, fun z => e (any_iff.mpr (z ▸ List.mem_map_of_mem h1))⟩
      · exact .inl h1
    · rintro (h1 | ⟨h1, _⟩)
      · exact .inr h1
      · exact .inl h1
/-- p is the last one of its time -/
def Last (l : Prs) (p : Int × Int) : Prop := p ∈ mergeP [] l
theorem merge_snoc (l : Prs) (q : Int × Int) : mergeP [] (l ++ [q]) = putP (mergeP [] l) q.1 q.2 := by
  unfold mergeP
  rw [List.foldl_append]
  rfl
theorem last_snoc {l : Prs} {q p : Int × Int} : Last (l ++ [q]) p ↔ p = q ∨ (Last l p ∧ p.1 ≠ q.1) := by
  unfold Last
  rw [merge_snoc, mem_put]
theorem mem_merge {p : Int × Int} : ∀ (more l : Prs), p ∈ mergeP l more → p ∈ l ∨ p ∈ more
  | [], l, h => .inl h
  | q :: r, l, h => by
    rcases mem_merge r _ h with h | h
    · rcases mem_put.mp h with h | h
      · exact .inr (h ▸ List.mem_cons_self ..)
      · exact .inl h.1
    · exact .inr (List.mem_cons_of_mem _ h)
theorem Last.mem {l : Prs} {p : Int × Int} (h : Last l p) : p ∈ l := by
  rcases mem_merge l [] h with h | h
  · simp at h
  · exact h
theorem len_put (l : Prs) (t h : Int) : (putP l t h).length ≤ l.length + 1 := by
  unfold putP
  split <;> simp
theorem len_merge : ∀ (more l : Prs), (mergeP l more).length ≤ l.length + more.length
  | [], l => Nat.le_refl _
  | p :: r, l => by
    have h1 := len_merge r (putP l p.1 p.2)
    have h2 := len_put l p.1 p.2
    show (mergeP (putP l p.1 p.2) r).length ≤ _
    simp only [List.length_cons]
    omega
/-- c is the curve of the samples l -/
structure IsC (l c : Prs) : Prop where
  up : c.Pairwise fun p q => p.1 < q.1
  mem : ∀ p, p ∈ c ↔ Last l p
  len0 : c.length = (mergeP [] l).length
theorem IsC.len {l c : Prs} (h : IsC l c) : c.length ≤ l.length := by
  rw [h.len0]
  have := len_merge l []
  simpa using this
theorem up_ext : ∀ {l l' : Prs}, (l.Pairwise fun p q => p.1 < q.1) → (l'.Pairwise fun p q => p.1 < q.1) → (∀ p, p ∈ l ↔ p ∈ l') → l = l'
  | [], [], _, _, _ => rfl
  | [], q :: r, _, _, h => by have := (h q).mpr (List.mem_cons_self ..); simp at this
  | p :: r, [], _, _, h => by have := (h p).mp (List.mem_cons_self ..); simp at this
  | p :: r, q :: r', h1, h2, h => by
    obtain ⟨a1, a2⟩ := List.pairwise_cons.mp h1
    obtain ⟨b1, b2⟩ := List.pairwise_cons.mp h2
    have e : p = q := by
      rcases List.mem_cons.mp ((h p).mp (List.mem_cons_self ..)) with z | z
      · exact z
      · rcases List.mem_cons.mp ((h q).mpr (List.mem_cons_self ..)) with y | y
        · exact y.symm
        · have := a1 q y; have := b1 p z; omega
    subst e
    congr 1
    refine up_ext a2 b2 fun x => ⟨fun hx => ?_, fun hx => ?_⟩
    · rcases List.mem_cons.mp ((h x).mp (List.mem_cons_of_mem _ hx)) with z | z
      · subst z; have := a1 _ hx; omega
      · exact z
    · rcases List.mem_cons.mp ((h x).mpr (List.mem_cons_of_mem _ hx)) with z | z
      · subst z; have := b1 _ hx; omega
      · exact z
theorem IsC.uniq {l c c' : Prs} (h : IsC l c) (h' : IsC l c') : c = c' := up_ext h.up h'.up fun p => (h.mem p).trans (h'.mem p).symm
/-- what dict and sorted make -/
def outOf (m : Prs) (ys : List Int) : Prs := ys.map fun t => (t, (valP m t).getD 0)
theorem isC_out {l : Prs} {ys : List Int} (hp : ys.Perm ((mergeP [] l).map (·.1))) (hs : ys.Pairwise (· ≤ ·)) : IsC l (outOf (mergeP [] l) ys) := by
  have nd := nd_merge l [] (by simp)
  have ndy : ys.Nodup := hp.nodup_iff.mpr nd
  refine ⟨?_, fun p => ?_, ?_⟩
  · unfold outOf
    rw [List.pairwise_map]
    refine List.Pairwise.imp₂ (fun a b h1 h2 => ?_) hs ndy
    show a < b
    have : a ≠ b := h2
    omega
  · unfold outOf Last
    rw [List.mem_map]
    constructor
    · rintro ⟨t, ht, rfl⟩
      obtain ⟨q, hq, e⟩ := List.mem_map.mp (hp.mem_iff.mp ht)
      have e2 : valP (mergeP [] l) t = some q.2 := (valP_iff nd).mpr (by rw [← e]; exact hq)
      rw [e2]
      rw [← e]
      exact hq
    · intro h
      refine ⟨p.1, hp.mem_iff.mpr (List.mem_map_of_mem h), ?_⟩
      have e2 : valP (mergeP [] l) p.1 = some p.2 := (valP_iff nd).mpr h
      rw [e2]
      rfl
  · unfold outOf
    rw [List.length_map, hp.length_eq, List.length_map]
/-- samples each of its own time, rising: their own curve -/
theorem last_nodup : ∀ {l : Prs} {p : Int × Int}, (l.map (·.1)).Nodup → (Last l p ↔ p ∈ l) := by
  intro l
  suffices h : ∀ n, ∀ l : Prs, l.length = n → ∀ p, (l.map (·.1)).Nodup → (Last l p ↔ p ∈ l) from fun {p} nd => h _ l rfl p nd
  intro n
  induction n with
  | zero =>
    intro l hl p _
    have : l = [] := List.length_eq_zero_iff.mp hl
    subst this
    simp [Last, mergeP]
  | succ n ih =>
    intro l hl p nd
    have hne : l ≠ [] := by intro z; subst z; simp at hl
    rw [← List.dropLast_concat_getLast hne] at nd ⊢
    rw [List.map_append, List.nodup_append] at nd
    rw [last_snoc, ih _ (by simp [hl]) p nd.1, List.mem_append, List.mem_singleton]
    constructor
    · rintro (h | h)
      · exact .inr h
      · exact .inl h.1
    · rintro (h | h)
      · exact .inr ⟨h, nd.2.2 _ (List.mem_map_of_mem h) _ (by simp)⟩
      · exact .inl h
theorem up_nodup {c : Prs} (h : c.Pairwise fun p q => p.1 < q.1) : (c.map (·.1)).Nodup := by
  unfold List.Nodup
  rw [List.pairwise_map]
  exact h.imp fun h => by omega
theorem keys_in {t : Int} : ∀ (more l : Prs), t ∈ l.map (·.1) ∨ t ∈ more.map (·.1) → t ∈ (mergeP l more).map (·.1)
  | [], l, h => by
    rcases h with h | h
    · exact h
    · simp at h
  | p :: r, l, h => by
    refine keys_in r (putP l p.1 p.2) ?_
    rw [keys_put]
    rcases h with h | h
    · left
      split
      · exact h
      · exact List.mem_append_left _ h
    · rw [List.map_cons, List.mem_cons] at h
      rcases h with h | h
      · left
        subst h
        split
        · assumption
        · exact List.mem_append_right _ (by simp)
      · exact .inr h
theorem nodup_of_len : ∀ n, ∀ l : Prs, l.length = n → (mergeP [] l).length = l.length → (l.map (·.1)).Nodup := by
  intro n
  induction n with
  | zero =>
    intro l hl _
    have : l = [] := List.length_eq_zero_iff.mp hl
    subst this
    exact List.Pairwise.nil
  | succ n ih =>
    intro l hl h
    have hne : l ≠ [] := by intro z; subst z; simp at hl
    rw [← List.dropLast_concat_getLast hne] at h ⊢
    have hd : l.dropLast.length = n := by simp [hl]
    generalize l.dropLast = d at *
    generalize l.getLast hne = q at *
    rw [merge_snoc] at h
    have e := congrArg List.length (keys_put (mergeP [] d) q.1 q.2)
    simp only [List.length_map] at e
    have hb := len_merge d []
    rw [h] at e
    simp only [List.length_append, List.length_cons, List.length_nil] at e hb
    by_cases hq : q.1 ∈ (mergeP [] d).map (·.1)
    · rw [if_pos hq, List.length_map] at e
      omega
    · rw [if_neg hq, List.length_append, List.length_map] at e
      simp only [List.length_cons, List.length_nil] at e
      rw [List.map_append, List.nodup_append]
      refine ⟨ih d hd (by omega), by simp, fun a ha b hb2 => ?_⟩
      simp at hb2
      subst hb2
      intro z
      subst z
      exact hq (keys_in d [] (.inr ha))
theorem IsC.again {l l' c c' : Prs} (h : IsC l c) (nd : (l.map (·.1)).Nodup) (h' : IsC l' c') (nd' : (l'.map (·.1)).Nodup) (hm : ∀ p, p ∈ l' ↔ p ∈ l) : c' = c :=
  up_ext h'.up h.up fun p => by rw [h'.mem, h.mem, last_nodup nd, last_nodup nd', hm]
theorem IsC.self {c c' : Prs} (hc : c.Pairwise fun p q => p.1 < q.1) (h : IsC c c') : c' = c := up_ext h.up hc fun p => by rw [h.mem, last_nodup (up_nodup hc)]
def prsLD (l : Prs) : PyData := .list (l.map pairP)
theorem shp_prsL (l : Prs) : Shp 2 (prsLD l) := Shp.listM (n := 1) shp_pair
theorem shaped_prsL (l : Prs) : SeqAt.shaped (prsLD l) = true := (shp_prsL l).ok
theorem eqv_prsL (l m : Prs) : PyData.eqv (prsLD l) (prsLD m) = decide (l = m) := by
  unfold prsLD
  rw [PyData.eqv]
  exact eqvAll_prs l m
theorem merge_take {l : Prs} {i : Nat} {p : Int × Int} (h : l[i]? = some p) : mergeP [] (l.take (i + 1)) = putP (mergeP [] (l.take i)) p.1 p.2 := by
  rw [take_snoc h, merge_snoc]
theorem dpAll_rev {K : PySem.W.Frag} {H : Hp} : ∀ {ws : List V} {ds : List PyData}, DpAll K H ws ds → DpAll K H ws.reverse ds.reverse
  | _, _, .nil => .nil
  | _, _, .cons h1 h2 => by
    rw [List.reverse_cons, List.reverse_cons]
    exact dpAll_snoc (dpAll_rev h2) h1
theorem out_up {m : Prs} {ys : List Int} (nd : (m.map (·.1)).Nodup) (hp : ys.Perm (m.map (·.1))) (hs : ys.Pairwise (· ≤ ·)) : (outOf m ys).Pairwise fun p q => p.1 < q.1 := by
  unfold outOf
  rw [List.pairwise_map]
  refine List.Pairwise.imp₂ (fun a b h1 h2 => ?_) hs (hp.nodup_iff.mpr nd)
  show a < b
  have : a ≠ b := h2
  omega
theorem out_mem {m : Prs} {ys : List Int} (nd : (m.map (·.1)).Nodup) (hp : ys.Perm (m.map (·.1))) {p : Int × Int} : p ∈ outOf m ys ↔ p ∈ m := by
  unfold outOf
  rw [List.mem_map]
  constructor
  · rintro ⟨t, ht, rfl⟩
    obtain ⟨q, hq, e⟩ := List.mem_map.mp (hp.mem_iff.mp ht)
    have e2 : valP m t = some q.2 := (valP_iff nd).mpr (by rw [← e]; exact hq)
    rw [e2, ← e]
    exact hq
  · intro h
    refine ⟨p.1, hp.mem_iff.mpr (List.mem_map_of_mem h), ?_⟩
    have e2 : valP m p.1 = some p.2 := (valP_iff nd).mpr h
    rw [e2]
    rfl
/-! ### dicts, step by step -/
section
variable {X : Cx} {K : PySem.W.Frag} {σ : St} {H H' : Hp} {Q : VK} {td ty tv te : TE} {nx bk ct : St → Hp → Prop} {rt : VK} {a : Addr} {kvs : List (Key × V)} {k : Key} {v x y : V}
def uDGet (x y : V) (H : Hp) (Q : VK) : Prop := ∃ a v, x = .ref a ∧ DGet H a y (some v) ∧ Q v H
theorem r_dget (q : td σ H fun x H1 => ty σ H1 fun y H2 => uDGet x y H2 Q) : tDGet td ty σ H Q := q
theorem r_dgeti {m : Prs} {t h : Int} (hd : H a = some (.dK (m.map inj))) (e : valP m t = some h) (q : Q (.int h) H) : uDGet (.ref a) (.int t) H Q := by
  refine ⟨a, .int h, rfl, ?_, q⟩
  have z := DGet.k (k := Sum.inl t) hd
  rw [val_inj, e] at z
  exact z
def uDPut (x y v : V) (H : Hp) (R : Hp → Prop) : Prop := ∃ a H4, x = .ref a ∧ DPut H a y v H4 ∧ R H4
theorem r_dput (q : tv σ H fun v H1 => td σ H1 fun x H2 => ty σ H2 fun y H3 => uDPut x y v H3 fun H4 => nx σ H4) : sDPut td ty tv ⟨nx, rt, bk, ct⟩ σ H := q
theorem r_dputi {m : Prs} {t h : Int} {R : Hp → Prop} (hd : H a = some (.dK (m.map inj))) (hl : m.length ≤ 100000) (q : ∀ H', Keep (At a) H H' → H' a = some (.dK ((putP m t h).map inj)) → R H') : uDPut (.ref a) (.int t) (.int h) H R := by
  refine ⟨a, _, rfl, DPut.k (k := Sum.inl t) hd (by rw [sizeLine_eq, List.length_map]; omega), q _ Keep.at_ ?_⟩
  rw [upd_same, put_inj]
theorem r_dnew (q : ∀ p H', H p = none → Same H H' → H' p = some (.dK []) → Q (.ref p) H') : tDNewK σ H Q := fun p hp => q p _ hp (Keep.same (Keep.new hp)) upd_same
def uDictP (K : PySem.W.Frag) : List V → Hp → VK → Prop := fun xs H Q => ∃ (a : Addr) (ps : List Addr) (kvs : List (Key × V)), xs = [.ref a] ∧ SqL K H a (ps.map V.ref) ∧ Paired (fun p kv => SqT K H p [kV kv.1, kv.2]) ps kvs ∧ ∀ p, H p = none → Q (.ref p) (upd H p (.dK (mergeK [] kvs)))
theorem c_dictP (hcalm : X.calm = true) : CallR X (.type "dict") (uDictP X.K) := call_dictP hcalm
theorem dp_pairs : ∀ {ws : List V} {l : Prs}, DpAll K H ws (l.map pairP) → ∃ ps : List Addr, ws = ps.map V.ref ∧ Paired (fun p kv => SqT K H p [kV kv.1, kv.2]) ps (l.map inj)
  | _, [], .nil => ⟨[], rfl, .nil⟩
  | _, p :: l, .cons h1 h2 => by
    obtain ⟨b, rfl, hb⟩ := dp_pair h1
    obtain ⟨ps, rfl, hp⟩ := dp_pairs h2
    exact ⟨b :: ps, rfl, .cons hb hp⟩
theorem r_dict {l : Prs} {ws : List V} (h : SqL K H a ws) (hd : DpAll K H ws (l.map pairP)) (q : ∀ p H', H p = none → Same H H' → H' p = some (.dK ((mergeP [] l).map inj)) → Q (.ref p) H') : uDictP K [.ref a] H Q := by
  obtain ⟨ps, rfl, hp⟩ := dp_pairs hd
  refine ⟨a, ps, l.map inj, rfl, h, hp, fun p hn => q p _ hn (Keep.same (Keep.new hn)) ?_⟩
  rw [upd_same]
  congr 2
  exact merge_inj l []
def uSortedD : List V → Hp → VK → Prop := fun xs H Q => ∃ (a : Addr) (kvs : List (Key × V)) (ks : List Int), xs = [.ref a] ∧ Rd H a (.dK kvs) ∧ kvs.map (·.1) = ks.map Sum.inl ∧ ks.length < 64 ∧
    ∀ (ys : List Int) (p : Addr), ys.Perm ks → ys.Pairwise (· ≤ ·) → H p = none → Q (.ref p) (upd H p (.lst (ys.map V.int)))
theorem c_sortedD (hcalm : X.calm = true) : CallR X (.builtin "sorted") uSortedD := call_sortedDI hcalm
theorem r_sortedD {m : Prs} (hd : H a = some (.dK (m.map inj))) (hl : m.length < 64) (q : ∀ (ys : List Int) p H', ys.Perm (m.map (·.1)) → ys.Pairwise (· ≤ ·) → H p = none → Same H H' → H' p = some (.lst (ys.map V.int)) → Q (.ref p) H') : uSortedD [.ref a] H Q :=
  ⟨a, m.map inj, m.map (·.1), rfl, .inl hd, by rw [List.map_map, List.map_map]; rfl, by simpa using hl, fun ys p h1 h2 h3 => q ys p _ h1 h2 h3 (Keep.same (Keep.new h3)) upd_same⟩
end
/-! ### parts of a curve -/
def partL (c : Prs) (b e : Int) : Prs := c.filter fun p => decide (b ≤ p.1) && decide (p.1 < e)
theorem partL_app {c : Prs} {a b d : Int} (hc : c.Pairwise fun p q => p.1 < q.1) (h1 : a ≤ b) (h2 : b ≤ d) : partL c a b ++ partL c b d = partL c a d := by
  induction c with
  | nil => rfl
  | cons p r ih =>
    obtain ⟨c1, c2⟩ := List.pairwise_cons.mp hc
    have ih := ih c2
    unfold partL at *
    by_cases h3 : p.1 < b
    · have e2 : (p :: r).filter (fun p => decide (b ≤ p.1) && decide (p.1 < d)) = r.filter (fun p => decide (b ≤ p.1) && decide (p.1 < d)) := List.filter_cons_of_neg (by simp; omega)
      rw [e2]
      by_cases h4 : a ≤ p.1
      · rw [List.filter_cons_of_pos (by simp; omega), List.filter_cons_of_pos (by simp; omega)]
        simp only [List.cons_append]
        rw [← ih]
      · rw [List.filter_cons_of_neg (by simp; omega), List.filter_cons_of_neg (by simp; omega)]
        exact ih
    · have e1 : r.filter (fun p => decide (a ≤ p.1) && decide (p.1 < b)) = [] := by
        rw [List.filter_eq_nil_iff]
        intro q hq
        have := c1 q hq
        simp
        omega
      rw [List.filter_cons_of_neg (by simp; omega), e1, List.nil_append]
      rw [e1, List.nil_append] at ih
      by_cases h4 : p.1 < d
      · rw [List.filter_cons_of_pos (by simp; omega), List.filter_cons_of_pos (by simp; omega), ih]
      · rw [List.filter_cons_of_neg (by simp; omega), List.filter_cons_of_neg (by simp; omega), ih]
theorem partL_self (c : Prs) (a b : Int) : partL (partL c a b) a b = partL c a b := by
  unfold partL
  rw [List.filter_filter]
  simp
theorem partL_len (c : Prs) (a b : Int) : (partL c a b).length ≤ c.length := List.length_filter_le _ _
theorem zip_up {c : Prs} (h : c.Pairwise fun p q => p.1 < q.1) : ∀ pq ∈ c.zip (c.drop 1), pq.1.1 < pq.2.1 := by
  intro pq hpq
  obtain ⟨i, hi⟩ := List.getElem?_of_mem hpq
  rw [List.getElem?_zip_eq_some] at hi
  obtain ⟨h1, h2⟩ := hi
  rw [List.getElem?_drop] at h2
  obtain ⟨i1, e1⟩ := List.getElem?_eq_some_iff.mp h1
  obtain ⟨i2, e2⟩ := List.getElem?_eq_some_iff.mp h2
  have := List.pairwise_iff_getElem.mp h i (1 + i) i1 i2 (by omega)
  rw [e1, e2] at this
  exact this
/-! ### pairs that stand in memory as tuples -/
def RawP (H : Hp) (ws : List V) (l : Prs) : Prop := Paired (fun v (q : Int × Int) => ∃ a, v = V.ref a ∧ H a = some (.tup [.int q.1, .int q.2])) ws l
theorem RawP.keep {F : Addr → Prop} {H H' : Hp} {ws : List V} {l : Prs} (h : RawP H ws l) (k : Keep F H H') (m : ∀ b, F b → Mut (H b)) : RawP H' ws l :=
  Paired.mapP h fun v q ⟨a, e, z⟩ => ⟨a, e, k a _ z fun n => by have := m a n; rw [z] at this; exact this⟩
theorem RawP.same {H H' : Hp} {ws : List V} {l : Prs} (h : RawP H ws l) (s : Same H H') : RawP H' ws l := Paired.mapP h fun v q ⟨a, e, z⟩ => ⟨a, e, s a _ z⟩
theorem RawP.dp {K : PySem.W.Frag} {H : Hp} : ∀ {ws : List V} {l : Prs}, RawP H ws l → DpAll K H ws (l.map pairP)
  | _, _, .nil => .nil
  | _, _, .cons ⟨a, e, z⟩ h => by
    subst e
    exact .cons (dp_of_pair (SqT.of z)) (RawP.dp h)
theorem RawP.len {H : Hp} {ws : List V} {l : Prs} (h : RawP H ws l) : ws.length = l.length := Paired.length h
theorem RawP.at_ {H : Hp} : ∀ {ws : List V} {l : Prs}, RawP H ws l → ∀ {i : Nat} {x : V}, ws[i]? = some x → ∃ q a, l[i]? = some q ∧ x = V.ref a ∧ H a = some (.tup [.int q.1, .int q.2])
  | _, _, .nil, i, x, h => by simp at h
  | _, _, .cons (b := q) ⟨a, e, z⟩ r, 0, x, h => by
    have e2 := Option.some.inj h
    subst e2
    exact ⟨q, a, rfl, e, z⟩
  | _, _, .cons _ r, i + 1, x, h => RawP.at_ r (i := i) (x := x) h
/-! ### bounds -/
/-- numbers that the laws draw -/
def big : Int := 1000000000000000000000000000000000000000000000000000000000000
structure Bd (p : Int × Int) : Prop where
  t : -big ≤ p.1 ∧ p.1 ≤ big
  h : -big ≤ p.2 ∧ p.2 ≤ big
end Fp
/-! stretches of times, in plain numbers -/
namespace Fp
open PySem PySem.Spec PyProof.Rows L2
def lvlF (b e : Int) : Nat → Nat → Nat
  | 0, l => l
  | n + 1, l => if b % 2 ^ (l + 1) = 0 ∧ b + 2 ^ (l + 1) ≤ e then lvlF b e n (l + 1) else l
def lvl (b e : Int) : Nat := lvlF b e 40 0
theorem two_mono {n m : Nat} (h : n ≤ m) : (2 : Int) ^ n ≤ 2 ^ m := by
  obtain ⟨k, rfl⟩ := Nat.exists_eq_add_of_le h
  rw [Int.pow_add]
  have h1 := two_pos n
  have h2 := two_pos k
  have : (2 : Int) ^ n * 1 ≤ 2 ^ n * 2 ^ k := Int.mul_le_mul_of_nonneg_left (by omega) (by omega)
  omega
theorem two_lt {n m : Nat} (h : (2 : Int) ^ n < 2 ^ m) : n < m := by
  rcases Nat.lt_or_ge n m with z | z
  · exact z
  · have := two_mono z; omega
theorem two_dvd {n m : Nat} (h : n ≤ m) : (2 : Int) ^ n ∣ 2 ^ m := by
  obtain ⟨k, rfl⟩ := Nat.exists_eq_add_of_le h
  rw [Int.pow_add]
  exact Int.dvd_mul_right ..
theorem lvlF_facts (b e : Int) : ∀ n l, n + l = 40 → b % 2 ^ l = 0 → b + 2 ^ l ≤ e → lvlF b e n l ≤ 40 ∧ b % 2 ^ lvlF b e n l = 0 ∧ b + 2 ^ lvlF b e n l ≤ e ∧ (lvlF b e n l < 40 → ¬ (b % 2 ^ (lvlF b e n l + 1) = 0 ∧ b + 2 ^ (lvlF b e n l + 1) ≤ e))
  | 0, l, h, h1, h2 => ⟨by unfold lvlF; omega, by unfold lvlF; exact h1, by unfold lvlF; exact h2, by unfold lvlF; omega⟩
  | n + 1, l, h, h1, h2 => by
    unfold lvlF
    by_cases c : b % 2 ^ (l + 1) = 0 ∧ b + 2 ^ (l + 1) ≤ e
    · rw [if_pos c]
      exact lvlF_facts b e n (l + 1) (by omega) c.1 c.2
    · rw [if_neg c]
      exact ⟨by omega, h1, h2, fun _ => c⟩
theorem lvlF_le (b e : Int) : ∀ n l, lvlF b e n l ≤ n + l
  | 0, l => by unfold lvlF; omega
  | n + 1, l => by
    unfold lvlF
    split
    · have := lvlF_le b e n (l + 1); omega
    · omega
theorem lvl_le (b e : Int) : lvl b e ≤ 40 := lvlF_le b e 40 0
theorem lvl_facts {b e : Int} (h : b < e) : b % 2 ^ lvl b e = 0 ∧ b + 2 ^ lvl b e ≤ e ∧ (lvl b e < 40 → ¬ (b % 2 ^ (lvl b e + 1) = 0 ∧ b + 2 ^ (lvl b e + 1) ≤ e)) :=
  (lvlF_facts b e 40 0 rfl (by simp) (by simp; omega)).2
/-- the stretches -/
def strF (e : Int) : Nat → Int → Prs
  | 0, _ => []
  | n + 1, b => if b < e then ((lvl b e : Int), b / 2 ^ lvl b e) :: strF e n (b + 2 ^ lvl b e) else []
def strL (b e : Int) : Prs := strF e (e - b).toNat b
theorem strF_fuel (e : Int) : ∀ n m b, (e - b).toNat ≤ n → (e - b).toNat ≤ m → strF e n b = strF e m b
  | 0, 0, _, _, _ => rfl
  | 0, m + 1, b, h, _ => by unfold strF; rw [if_neg (by omega)]
  | n + 1, 0, b, _, h => by unfold strF; rw [if_neg (by omega)]
  | n + 1, m + 1, b, h1, h2 => by
    unfold strF
    have := two_pos (lvl b e)
    split
    · rw [strF_fuel e n m _ (by omega) (by omega)]
    · rfl
theorem str_nil {b e : Int} (h : ¬ b < e) : strL b e = [] := by
  unfold strL
  rw [show (e - b).toNat = 0 by omega]
  rfl
theorem str_cons {b e : Int} (h : b < e) : strL b e = ((lvl b e : Int), b / 2 ^ lvl b e) :: strL (b + 2 ^ lvl b e) e := by
  have := two_pos (lvl b e)
  unfold strL
  obtain ⟨n, hn⟩ : ∃ n, (e - b).toNat = n + 1 := ⟨(e - b).toNat - 1, by omega⟩
  rw [hn]
  show (if b < e then ((lvl b e : Int), b / 2 ^ lvl b e) :: strF e n (b + 2 ^ lvl b e) else []) = _
  rw [if_pos h, strF_fuel e n (e - (b + 2 ^ lvl b e)).toNat _ (by omega) (by omega)]
theorem str_fall : ∀ k, k ≤ 40 → ∀ b e : Int, (2 : Int) ^ k ∣ b → e - b < 2 ^ k → (strL b e).length ≤ k := by
  intro k
  induction k using Nat.strongRecOn with
  | _ k ih =>
    intro hk b e hd hl
    by_cases h : b < e
    · obtain ⟨h1, h2, h3⟩ := lvl_facts h
      have hlk : lvl b e < k := two_lt (by omega)
      have h4 := h3 (by omega)
      have h5 : (2 : Int) ^ (lvl b e + 1) ∣ b := Int.dvd_trans (two_dvd hlk) hd
      have h6 : ¬ b + 2 ^ (lvl b e + 1) ≤ e := fun z => h4 ⟨Int.emod_eq_zero_of_dvd h5, z⟩
      rw [two_succ] at h6
      rw [str_cons h, List.length_cons]
      have := ih _ hlk (by omega) (b + 2 ^ lvl b e) e (Int.dvd_add (Int.dvd_of_emod_eq_zero h1) (Int.dvd_refl _)) (by omega)
      omega
    · rw [str_nil h]; simp
theorem dvd_next {l : Nat} {b : Int} (h1 : b % 2 ^ l = 0) (h2 : ¬ b % 2 ^ (l + 1) = 0) : (2 : Int) ^ (l + 1) ∣ b + 2 ^ l := by
  obtain ⟨m, rfl⟩ := Int.dvd_of_emod_eq_zero h1
  have hm : m % 2 = 1 := by
    rcases Int.emod_two_eq m with z | z
    · exfalso
      apply h2
      obtain ⟨j, rfl⟩ := Int.dvd_of_emod_eq_zero z
      rw [← Int.mul_assoc, ← Int.pow_succ]
      exact Int.mul_emod_right _ _
    · exact z
  refine ⟨(m + 1) / 2, ?_⟩
  rw [Int.pow_succ, Int.mul_assoc]
  have : 2 * ((m + 1) / 2) = m + 1 := by omega
  rw [this, Int.mul_add, Int.mul_one]
theorem str_rise : ∀ j k : Nat, j + k = 40 → ∀ b e : Int, (2 : Int) ^ k ∣ b → -(2 ^ 40) < b → e ≤ 2 ^ 40 → (strL b e).length ≤ 80 - k := by
  intro j
  induction j using Nat.strongRecOn with
  | _ j ih =>
    intro k hj b e hd hb he
    by_cases h : b < e
    · obtain ⟨h1, h2, h3⟩ := lvl_facts h
      have hle := lvl_le b e
      rw [str_cons h, List.length_cons]
      by_cases hl : lvl b e < 40
      · have h4 := h3 hl
        by_cases h5 : b + 2 ^ (lvl b e + 1) ≤ e
        · have h6 : ¬ b % 2 ^ (lvl b e + 1) = 0 := fun z => h4 ⟨z, h5⟩
          have hkl : k ≤ lvl b e := by
            rcases Nat.lt_or_ge (lvl b e) k with z | z
            · exact absurd (Int.emod_eq_zero_of_dvd (Int.dvd_trans (two_dvd z) hd)) h6
            · exact z
          have := two_pos (lvl b e)
          have := ih (40 - (lvl b e + 1)) (by omega) (lvl b e + 1) (by omega) (b + 2 ^ lvl b e) e (dvd_next h1 h6) (by omega) he
          omega
        · rw [two_succ] at h5
          have := str_fall (lvl b e) (by omega) (b + 2 ^ lvl b e) e (Int.dvd_add (Int.dvd_of_emod_eq_zero h1) (Int.dvd_refl _)) (by omega)
          omega
      · have e40 : lvl b e = 40 := by omega
        rw [e40] at h1 h2 ⊢
        rw [str_nil (by omega)]
        simp
        omega
    · rw [str_nil h]; simp
theorem str_len {b e : Int} (hb : -(2 ^ 40) ≤ b) (he : e ≤ 2 ^ 40) : (strL b e).length ≤ 80 := by
  by_cases h0 : b = -(2 ^ 40)
  · subst h0
    by_cases h : (-(2 ^ 40) : Int) < e
    · obtain ⟨h1, h2, h3⟩ := lvl_facts h
      have hle := lvl_le (-(2 ^ 40)) e
      rw [str_cons h, List.length_cons]
      generalize lvl (-(2 ^ 40)) e = l at *
      by_cases hl : l < 40
      · have h4 := h3 hl
        have h5 : ¬ -(2 ^ 40) + 2 ^ (l + 1) ≤ e := fun z => h4 ⟨Int.emod_eq_zero_of_dvd (Int.dvd_neg.mpr (two_dvd (by omega))), z⟩
        rw [two_succ] at h5
        have := str_fall l (by omega) (-(2 ^ 40) + 2 ^ l) e (Int.dvd_add (Int.dvd_of_emod_eq_zero h1) (Int.dvd_refl _)) (by omega)
        omega
      · have e40 : l = 40 := by omega
        subst e40
        have := str_rise 0 40 rfl (-(2 ^ 40) + 2 ^ 40) e ⟨0, by omega⟩ (by omega) he
        omega
    · rw [str_nil h]; simp
  · exact str_rise 40 0 rfl b e (by rw [Int.pow_zero]; exact Int.one_dvd b) (by omega) he
theorem str_mem {e : Int} : ∀ n : Nat, ∀ b : Int, (strL b e).length = n → ∀ q ∈ strL b e, ∃ l : Nat, l ≤ 40 ∧ q.1 = (l : Int) := by
  intro n
  induction n with
  | zero =>
    intro b h q hq
    rw [List.length_eq_zero_iff.mp h] at hq
    simp at hq
  | succ n ih =>
    intro b h q hq
    by_cases hb : b < e
    · rw [str_cons hb] at h hq
      rcases List.mem_cons.mp hq with rfl | hq
      · exact ⟨_, lvl_le b e, rfl⟩
      · exact ih _ (by simpa using h) q hq
    · rw [str_nil hb] at h
      simp at h
end Fp
/-! fours: first, last, lowest, highest; tables of fours by stretches -/
namespace Fp
open PySem PySem.Spec PyProof.Rows L2
structure Four where
  f : Int × Int
  l : Int × Int
  lo : Int × Int
  hi : Int × Int
def four4 (F : Four) : PyData := .tuple [pairP F.f, pairP F.l, pairP F.lo, pairP F.hi]
def fourD : Option Four → PyData
  | none => .none
  | some F => four4 F
theorem imm_four (F : Option Four) : imm (fourD F) = true := by
  cases F with
  | none => rfl
  | some F => simp [fourD, four4, imm, immAll, imm_pair]
theorem dp4 {K : PySem.W.Frag} {H : Hp} {ws : List V} {a b c d : PyData} (h : DpAll K H ws [a, b, c, d]) : ∃ w x y z, ws = [w, x, y, z] ∧ Dp K H w a ∧ Dp K H x b ∧ Dp K H y c ∧ Dp K H z d := by
  cases h with
  | cons h1 h =>
    cases h with
    | cons h2 h =>
      cases h with
      | cons h3 h =>
        cases h with
        | cons h4 h =>
          cases h
          exact ⟨_, _, _, _, rfl, h1, h2, h3, h4⟩
theorem shp_four (F : Option Four) : Shp 2 (fourD F) := by
  cases F with
  | none => exact .none
  | some F => exact Shp.t4 (shp_pair _) (shp_pair _) (shp_pair _) (shp_pair _)
def lowP (a b : Int × Int) : Int × Int := if b.2 < a.2 then b else a
def highP (a b : Int × Int) : Int × Int := if b.2 > a.2 then b else a
def joinF : Option Four → Option Four → Option Four
  | none, b => b
  | some a, none => some a
  | some a, some b => some ⟨a.f, b.l, lowP a.lo b.lo, highP a.hi b.hi⟩
theorem lowP_assoc (a b c : Int × Int) : lowP (lowP a b) c = lowP a (lowP b c) := by
  unfold lowP
  by_cases h1 : b.2 < a.2 <;> by_cases h2 : c.2 < b.2 <;> by_cases h3 : c.2 < a.2 <;> simp [h1, h2, h3] <;> (exfalso; omega)
theorem highP_assoc (a b c : Int × Int) : highP (highP a b) c = highP a (highP b c) := by
  unfold highP
  by_cases h1 : b.2 > a.2 <;> by_cases h2 : c.2 > b.2 <;> by_cases h3 : c.2 > a.2 <;> simp [h1, h2, h3] <;> (exfalso; omega)
theorem joinF_none (a : Option Four) : joinF a none = a := by cases a <;> rfl
theorem joinF_assoc (a b c : Option Four) : joinF (joinF a b) c = joinF a (joinF b c) := by
  cases a with
  | none => rfl
  | some a =>
    cases b with
    | none => rfl
    | some b =>
      cases c with
      | none => rfl
      | some c => simp only [joinF, lowP_assoc, highP_assoc]
def oneF (p : Int × Int) : Option Four := some ⟨p, p, p, p⟩
def fourL (c : Prs) : Option Four := c.foldl (fun a p => joinF a (oneF p)) none
theorem fold_join (c : Prs) : ∀ a : Option Four, c.foldl (fun a p => joinF a (oneF p)) a = joinF a (fourL c) := by
  induction c with
  | nil => intro a; exact (joinF_none a).symm
  | cons p r ih =>
    intro a
    show r.foldl (fun a p => joinF a (oneF p)) (joinF a (oneF p)) = joinF a (r.foldl (fun a p => joinF a (oneF p)) (joinF none (oneF p)))
    rw [ih, ih, joinF_assoc]
    rfl
theorem fourL_app (c d : Prs) : fourL (c ++ d) = joinF (fourL c) (fourL d) := by
  show (c ++ d).foldl (fun a p => joinF a (oneF p)) none = _
  rw [List.foldl_append, fold_join]
  rfl
theorem fourL_nil : fourL [] = none := rfl
theorem fourL_one (p : Int × Int) : fourL [p] = oneF p := rfl
theorem fourL_cons (p : Int × Int) (c : Prs) : fourL (p :: c) = joinF (oneF p) (fourL c) := fourL_app [p] c
theorem fourL_none {c : Prs} (h : fourL c = none) : c = [] := by
  cases c with
  | nil => rfl
  | cons p r =>
    rw [fourL_cons] at h
    unfold oneF at h
    cases e : fourL r with
    | none => rw [e] at h; cases h
    | some F => rw [e] at h; cases h
theorem fold_some (r : Prs) : ∀ F : Four, r.foldl (fun a p => joinF a (oneF p)) (some F) = some ⟨F.f, (r.getLast?).getD F.l, r.foldl lowP F.lo, r.foldl highP F.hi⟩ := by
  induction r with
  | nil => intro F; rfl
  | cons p r ih =>
    intro F
    show r.foldl (fun a p => joinF a (oneF p)) (some ⟨F.f, p, lowP F.lo p, highP F.hi p⟩) = _
    rw [ih]
    cases r with
    | nil => rfl
    | cons q r =>
      have e : ∀ z : Int × Int, ((q :: r).getLast?).getD z = (q :: r).getLast (by simp) := fun z => by rw [List.getLast?_eq_some_getLast (by simp)]; rfl
      have e2 : ((p :: q :: r).getLast?).getD F.l = (q :: r).getLast (by simp) := by rw [List.getLast?_eq_some_getLast (by simp)]; rfl
      rw [e2]
      show some (Four.mk F.f (((q :: r).getLast?).getD p) _ _) = _
      rw [e]
      rfl
theorem fourL_eq (f : Int × Int) (r : Prs) : fourL (f :: r) = some ⟨f, (r.getLast?).getD f, r.foldl lowP f, r.foldl highP f⟩ := fold_some r ⟨f, f, f, f⟩
theorem lowP_self (f : Int × Int) : lowP f f = f := by unfold lowP; split <;> rfl
theorem highP_self (f : Int × Int) : highP f f = f := by unfold highP; split <;> rfl
/-! ### the times of a stretch -/
def seg (c : Prs) (l : Nat) (s : Int) : Prs := partL c (s * 2 ^ l) (s * 2 ^ l + 2 ^ l)
theorem seg_succ {c : Prs} (hc : c.Pairwise fun p q => p.1 < q.1) (l : Nat) (s : Int) : seg c (l + 1) s = seg c l (2 * s) ++ seg c l (2 * s + 1) := by
  have h := two_pos l
  have e1 : s * 2 ^ (l + 1) = 2 * s * 2 ^ l := by rw [two_succ, ← Int.mul_assoc, Int.mul_comm s 2]
  have e2 : (2 * s + 1) * 2 ^ l = 2 * s * 2 ^ l + 2 ^ l := by rw [Int.add_mul, Int.one_mul]
  unfold seg
  rw [e1, e2, partL_app hc (by omega) (by omega), two_succ]
  congr 1
  omega
theorem partL_none {c : Prs} {b e : Int} (h : ¬ b < e) : partL c b e = [] := by
  unfold partL
  rw [List.filter_eq_nil_iff]
  intro p _
  simp
  omega
/-- the stretches' fours, joined -/
theorem str_four {c : Prs} (hc : c.Pairwise fun p q => p.1 < q.1) (e : Int) : ∀ n : Nat, ∀ b : Int, (strL b e).length = n → (strL b e).foldl (fun a p => joinF a (fourL (seg c p.1.toNat p.2))) none = fourL (partL c b e) := by
  have gen : ∀ (l : Prs) (a : Option Four), l.foldl (fun a p => joinF a (fourL (seg c p.1.toNat p.2))) a = joinF a (l.foldl (fun a p => joinF a (fourL (seg c p.1.toNat p.2))) none) := by
    intro l
    induction l with
    | nil => intro a; exact (joinF_none a).symm
    | cons p r ih =>
      intro a
      simp only [List.foldl_cons]
      rw [ih, ih (joinF none _), joinF_assoc]
      rfl
  intro n
  induction n with
  | zero =>
    intro b h
    have hb : ¬ b < e := fun z => by rw [str_cons z] at h; simp at h
    rw [str_nil hb, partL_none hb]
    rfl
  | succ n ih =>
    intro b h
    by_cases hb : b < e
    · obtain ⟨h1, h2, _⟩ := lvl_facts hb
      have hm : b / 2 ^ lvl b e * 2 ^ lvl b e = b := Int.ediv_mul_cancel_of_emod_eq_zero h1
      have hp := two_pos (lvl b e)
      rw [str_cons hb] at h ⊢
      simp only [List.length_cons, Nat.add_right_cancel_iff] at h
      rw [List.foldl_cons, gen, ih _ h]
      show joinF (joinF none (fourL (seg c ((lvl b e : Nat) : Int).toNat (b / 2 ^ lvl b e)))) _ = _
      rw [show ((lvl b e : Nat) : Int).toNat = lvl b e from rfl]
      unfold seg
      rw [hm]
      show joinF (fourL (partL c b (b + 2 ^ lvl b e))) _ = _
      rw [← fourL_app, partL_app hc (by omega) h2]
    · rw [str_nil hb] at h
      simp at h
/-! ### tables of fours by stretches -/
def skey (l : Nat) (s : Int) : List Key := [Sum.inl (l : Int), Sum.inl s]
theorem skey_inj {l l' : Nat} {s s' : Int} : skey l s = skey l' s' ↔ l = l' ∧ s = s' := by
  unfold skey
  simp
  intro _
  omega
inductive Fits (K : PySem.W.Frag) (H : Hp) : Option V → Option Four → Prop
  | none : Fits K H none none
  | some {v : V} {F : Four} : Dp K H v (four4 F) → Fits K H (some v) (some F)
theorem Fits.text {K : PySem.W.Frag} {H H' : Hp} {o : Option V} {F : Option Four} (h : Fits K H o F) (e : TExt H H') : Fits K H' o F := by
  cases h with
  | none => exact .none
  | some d => exact .some (Dp.text e _ _ (imm_four (Option.some _)) d)
theorem Fits.getD {K : PySem.W.Frag} {H : Hp} {o : Option V} {F : Option Four} (h : Fits K H o F) : Dp K H (o.getD .non) (fourD F) := by
  cases h with
  | none => exact .non
  | some d => exact d
/-- below level k the fours of c', from there on those of c -/
def Mix (K : PySem.W.Frag) (H : Hp) (kvs : List (List Key × V)) (c c' : Prs) (k : Nat) : Prop :=
  ∀ (l : Nat) (s : Int), l ≤ 40 → Fits K H (valV kvs (skey l s)) (fourL (seg (if l < k then c' else c) l s))
abbrev FourInv (K : PySem.W.Frag) (H : Hp) (kvs : List (List Key × V)) (c : Prs) : Prop := Mix K H kvs c c 0
theorem Mix.text {K : PySem.W.Frag} {H H' : Hp} {kvs : List (List Key × V)} {c c' : Prs} {k : Nat} (h : Mix K H kvs c c' k) (e : TExt H H') : Mix K H' kvs c c' k := fun l s hl => (h l s hl).text e
theorem Mix.zero {K : PySem.W.Frag} {H : Hp} {kvs : List (List Key × V)} {c : Prs} (c' : Prs) (h : FourInv K H kvs c) : Mix K H kvs c c' 0 := fun l s hl => by
  have := h l s hl
  rw [if_neg (by omega)] at this ⊢
  exact this
theorem Mix.full {K : PySem.W.Frag} {H : Hp} {kvs : List (List Key × V)} {c c' : Prs} (h : Mix K H kvs c c' 41) : FourInv K H kvs c' := fun l s hl => by
  have := h l s hl
  rw [if_pos (by omega)] at this
  rw [if_neg (by omega)]
  exact this
/-- c and c' differ at t at most -/
def Beside (t : Int) (c c' : Prs) : Prop := ∀ b e : Int, ¬ (b ≤ t ∧ t < e) → partL c' b e = partL c b e
theorem seg_beside {t : Int} {c c' : Prs} (h : Beside t c c') {l : Nat} {s : Int} (hs : s ≠ t / 2 ^ l) : seg c' l s = seg c l s := by
  refine h _ _ fun z => hs ?_
  exact (div_is (two_pos l) z.1 z.2).symm
/-- one more level is done: what stands at the stretch of t is the four of c' -/
theorem Mix.step {K : PySem.W.Frag} {H H' : Hp} {kvs kvs' : List (List Key × V)} {c c' : Prs} {t : Int} {k : Nat} (hb : Beside t c c') (h : Mix K H kvs c c' k) (e : TExt H H')
    (hv : ∀ j, j ≠ skey k (t / 2 ^ k) → valV kvs' j = valV kvs j) (hn : Fits K H' (valV kvs' (skey k (t / 2 ^ k))) (fourL (seg c' k (t / 2 ^ k)))) : Mix K H' kvs' c c' (k + 1) := by
  intro l s hl
  by_cases hk : skey l s = skey k (t / 2 ^ k)
  · obtain ⟨rfl, rfl⟩ := skey_inj.mp hk
    rw [if_pos (by omega)]
    exact hn
  · rw [hv _ hk]
    have := (h l s hl).text e
    by_cases h1 : l < k
    · rw [if_pos h1] at this
      rw [if_pos (by omega)]
      exact this
    · rw [if_neg h1] at this
      by_cases h2 : l = k
      · rw [if_pos (by omega), seg_beside hb (fun z => hk (skey_inj.mpr ⟨h2, by rw [z, h2]⟩))]
        exact this
      · rw [if_neg (by omega)]
        exact this
/-- the two that are joined at the next level -/
theorem Mix.two {K : PySem.W.Frag} {H : Hp} {kvs : List (List Key × V)} {c c' : Prs} {k : Nat} (h : Mix K H kvs c c' (k + 1)) (hk : k < 40) (s : Int) :
    Fits K H (valV kvs (skey k (2 * s))) (fourL (seg c' k (2 * s))) ∧ Fits K H (valV kvs (skey k (2 * s + 1))) (fourL (seg c' k (2 * s + 1))) := by
  have h1 := h k (2 * s) (by omega)
  have h2 := h k (2 * s + 1) (by omega)
  rw [if_pos (by omega)] at h1 h2
  exact ⟨h1, h2⟩
theorem seg_zero_mem {c : Prs} (hc : c.Pairwise fun p q => p.1 < q.1) {t h : Int} (hm : (t, h) ∈ c) : seg c 0 t = [(t, h)] := by
  refine up_ext (hc.sublist List.filter_sublist) (List.pairwise_singleton _ _) fun p => ?_
  unfold seg partL
  rw [List.mem_filter, List.mem_singleton]
  simp only [Int.pow_zero, Int.mul_one, Bool.and_eq_true, decide_eq_true_eq]
  constructor
  · rintro ⟨hp, h1, h2⟩
    have e1 := (valP_iff (up_nodup hc)).mpr (show (t, h) ∈ c from hm)
    have e2 := (valP_iff (up_nodup hc)).mpr (show (t, p.2) ∈ c by rw [show (t, p.2) = p from Prod.ext (by show t = p.1; omega) rfl]; exact hp)
    rw [e1] at e2
    exact Prod.ext (by show p.1 = t; omega) (Option.some.inj e2).symm
  · rintro rfl
    exact ⟨hm, by omega, by omega⟩
theorem seg_zero_not {c : Prs} {t : Int} (hm : ∀ p ∈ c, p.1 ≠ t) : seg c 0 t = [] := by
  unfold seg partL
  rw [List.filter_eq_nil_iff]
  intro p hp
  have := hm p hp
  simp
  omega
theorem in_stretch (t : Int) (l : Nat) : t / 2 ^ l * 2 ^ l ≤ t ∧ t < t / 2 ^ l * 2 ^ l + 2 ^ l := by
  have hp := two_pos l
  have h1 := Int.ediv_mul_le t (b := 2 ^ l) (by omega)
  have h2 := Int.lt_ediv_add_one_mul_self t hp
  rw [Int.add_mul, Int.one_mul] at h2
  exact ⟨h1, h2⟩
theorem seg_has {c : Prs} {t h : Int} (hm : (t, h) ∈ c) (l : Nat) : (t, h) ∈ seg c l (t / 2 ^ l) := by
  obtain ⟨h1, h2⟩ := in_stretch t l
  unfold seg partL
  rw [List.mem_filter]
  exact ⟨hm, by simp only [Bool.and_eq_true, decide_eq_true_eq]; exact ⟨h1, h2⟩⟩
theorem Fits.of_some {K : PySem.W.Frag} {H : Hp} {v : V} {F : Option Four} (d : Dp K H v (fourD F)) (h : F ≠ Option.none) : Fits K H (Option.some v) F := by
  cases F with
  | none => exact absurd rfl h
  | some F => exact .some d
end Fp
/-! classes of the program: methods, making, fields; dicts by tuples -/
namespace Fp
open PySem PySem.Spec PyProof.Rows L2
/-- a class without bases at the module's name x -/
structure ClT (K : PySem.W.Frag) (mg : Str → Option Value) (x : Str) (C : Addr) : Prop where
  g : mg x = some (.ref C)
  cl : Cls K C
  mks : PySem.W.makesIn K C = true
  kp : PySem.W.keepIn K (.ref C) = true
structure MDef (K : PySem.W.Frag) (C : Addr) (m qual : Str) (st : Stmt) (ps : List Str) : Prop where
  ex : ∃ f fd, Fun K m qual st f fd ∧ Meth K C m f ∧ Binds K fd ps []
structure MFn (P : Program) (w : World) (K : PySem.W.Frag) (mg : Str → Option Value) (base : Heap) (k : Nat) (C : Addr) (m : Str) (ps : List Str) (sp : Sp) : Prop where
  ex : ∃ f fd, Meth K C m f ∧ Binds K fd ps [] ∧ FnOk P w K mg base (L2.CX P w) k f fd ps sp
/-- an __init__ whose last parameter has the default None -/
structure IDef (K : PySem.W.Frag) (C : Addr) (qual : Str) (st : Stmt) (ps : List Str) : Prop where
  ex : ∃ f fd, FunD K "__init__" qual (defArgs st) (defBody st) (defScope st) [.non] [] f fd ∧ Mk K C f ∧ Binds K fd ps [] ∧ KBn K fd ps 1 [ps.getD 1 Str.empty] (fun us ws => us ++ ws) (fun vs zs => vs ++ zs) ∧ ∃ ds, Vals [V.non] ds ∧ Binds K fd ps ds
structure IFn (P : Program) (w : World) (K : PySem.W.Frag) (mg : Str → Option Value) (base : Heap) (k : Nat) (C : Addr) (ps : List Str) (sp : Sp) : Prop where
  ex : ∃ f fd, Mk K C f ∧ Binds K fd ps [] ∧ KBn K fd ps 1 [ps.getD 1 Str.empty] (fun us ws => us ++ ws) (fun vs zs => vs ++ zs) ∧ (∃ ds, Vals [V.non] ds ∧ Binds K fd ps ds) ∧ FnOk P w K mg base (L2.CX P w) k f fd ps sp
/-- an __init__ without defaults -/
structure PDef (K : PySem.W.Frag) (C : Addr) (qual : Str) (st : Stmt) (ps : List Str) : Prop where
  ex : ∃ f fd, Fun K "__init__" qual st f fd ∧ Mk K C f ∧ Binds K fd ps []
structure PFn (P : Program) (w : World) (K : PySem.W.Frag) (mg : Str → Option Value) (base : Heap) (k : Nat) (C : Addr) (ps : List Str) (sp : Sp) : Prop where
  ex : ∃ f fd, Mk K C f ∧ Binds K fd ps [] ∧ FnOk P w K mg base (L2.CX P w) k f fd ps sp
theorem IFn.pos {P : Program} {w : World} {K : PySem.W.Frag} {mg : Str → Option Value} {base : Heap} {k : Nat} {C : Addr} {ps : List Str} {sp : Sp} (G : IFn P w K mg base k C ps sp) : PFn P w K mg base k C ps sp := by
  obtain ⟨f, fd, hm, hb, _, _, F⟩ := G.ex
  exact ⟨f, fd, hm, hb, F⟩
section
variable {P : Program} {w : World} {K : PySem.W.Frag} {mg : Str → Option Value} {base : Heap} {C : Addr}
theorem PDef.ok {qual : Str} {st : Stmt} {N ps : List Str} {k : Nat} {sp : Sp} (D : PDef K C qual st ps) (S : FnScope N ps (defScope st)) (len : ∀ vs H Q E, sp vs H Q E → vs.length = ps.length)
    (hbody : ∀ (f : Addr) (cdv : Value) (A : Around) (outer : List Env) (s : Shared) (H : Hp) (vs : List V) (Q : VK) (E : XK), Room k (A.deeper (envOfC qual (defScope st) s.heap.objs.size f cdv)) → sp vs H Q E →
      ∃ t, PSs (cxOf CX0 P w K mg base N qual (defScope st) f cdv A outer s H E).nox (defBody st) t ∧ t { nx := fun _ H' => Q .non H', rt := Q } (start N vs) H) : PFn P w K mg base (k + 1) C ps sp := by
  obtain ⟨f, fd, F, hm, hb⟩ := D.ex
  exact ⟨f, fd, hm, hb, fn_up (F.ok S len (hbody f))⟩
theorem PDef.okX {qual : Str} {st : Stmt} {N ps : List Str} {k : Nat} {sp : Sp} (D : PDef K C qual st ps) (S : FnScope N ps (defScope st)) (len : ∀ vs H Q E, sp vs H Q E → vs.length = ps.length)
    (hbody : ∀ (f : Addr) (cdv : Value) (A : Around) (outer : List Env) (s : Shared) (H : Hp) (vs : List V) (Q : VK) (E : XK), Room k (A.deeper (envOfC qual (defScope st) s.heap.objs.size f cdv)) → sp vs H Q E →
      ∃ t, PSs (cxOf (L2.CX P w) P w K mg base N qual (defScope st) f cdv A outer s H E) (defBody st) t ∧ t { nx := fun _ H' => Q .non H', rt := Q } (start N vs) H) : PFn P w K mg base (k + 1) C ps sp := by
  obtain ⟨f, fd, F, hm, hb⟩ := D.ex
  exact ⟨f, fd, hm, hb, F.okX S len (hbody f)⟩
theorem MDef.ok {m qual : Str} {st : Stmt} {N ps : List Str} {k : Nat} {sp : Sp} (D : MDef K C m qual st ps) (S : FnScope N ps (defScope st)) (len : ∀ vs H Q E, sp vs H Q E → vs.length = ps.length)
    (hbody : ∀ (f : Addr) (cdv : Value) (A : Around) (outer : List Env) (s : Shared) (H : Hp) (vs : List V) (Q : VK) (E : XK), Room k (A.deeper (envOfC qual (defScope st) s.heap.objs.size f cdv)) → sp vs H Q E →
      ∃ t, PSs (cxOf CX0 P w K mg base N qual (defScope st) f cdv A outer s H E).nox (defBody st) t ∧ t { nx := fun _ H' => Q .non H', rt := Q } (start N vs) H) : MFn P w K mg base (k + 1) C m ps sp := by
  obtain ⟨f, fd, F, hm, hb⟩ := D.ex
  exact ⟨f, fd, hm, hb, fn_up (F.ok S len (hbody f))⟩
theorem MDef.okX {m qual : Str} {st : Stmt} {N ps : List Str} {k : Nat} {sp : Sp} (D : MDef K C m qual st ps) (S : FnScope N ps (defScope st)) (len : ∀ vs H Q E, sp vs H Q E → vs.length = ps.length)
    (hbody : ∀ (f : Addr) (cdv : Value) (A : Around) (outer : List Env) (s : Shared) (H : Hp) (vs : List V) (Q : VK) (E : XK), Room k (A.deeper (envOfC qual (defScope st) s.heap.objs.size f cdv)) → sp vs H Q E →
      ∃ t, PSs (cxOf (L2.CX P w) P w K mg base N qual (defScope st) f cdv A outer s H E) (defBody st) t ∧ t { nx := fun _ H' => Q .non H', rt := Q } (start N vs) H) : MFn P w K mg base (k + 1) C m ps sp := by
  obtain ⟨f, fd, F, hm, hb⟩ := D.ex
  exact ⟨f, fd, hm, hb, F.okX S len (hbody f)⟩
theorem IDef.okX {qual : Str} {st : Stmt} {N ps : List Str} {k : Nat} {sp : Sp} (D : IDef K C qual st ps) (S : FnScope N ps (defScope st)) (len : ∀ vs H Q E, sp vs H Q E → vs.length = ps.length)
    (hbody : ∀ (f : Addr) (cdv : Value) (A : Around) (outer : List Env) (s : Shared) (H : Hp) (vs : List V) (Q : VK) (E : XK), Room k (A.deeper (envOfC qual (defScope st) s.heap.objs.size f cdv)) → sp vs H Q E →
      ∃ t, PSs (cxOf (L2.CX P w) P w K mg base N qual (defScope st) f cdv A outer s H E) (defBody st) t ∧ t { nx := fun _ H' => Q .non H', rt := Q } (start N vs) H) : IFn P w K mg base (k + 1) C ps sp := by
  obtain ⟨f, fd, F, hm, hb, hk, hd⟩ := D.ex
  exact ⟨f, fd, hm, hb, hk, hd, F.ok S len (hbody f)⟩
theorem mdef_mk {m qual : Str} {st : Stmt} {f : Addr} {fd : FuncData} {ps : List Str} (F : Fun K m qual st f fd) (a : PySem.W.findIn K (.ref C) m = some (some (.ref f))) (i : PySem.W.isFn K (.ref f) = true) (k : PySem.W.keepIn K (.ref f) = true) (hb : Binds K fd ps []) : MDef K C m qual st ps := ⟨f, fd, F, ⟨a, i, k⟩, hb⟩
theorem pdef_mk {qual : Str} {st : Stmt} {f : Addr} {fd : FuncData} {ps : List Str} (F : Fun K "__init__" qual st f fd) (M : Mk K C f) (hb : Binds K fd ps []) : PDef K C qual st ps := ⟨f, fd, F, M, hb⟩
theorem idef_mk {qual : Str} {st : Stmt} {f : Addr} {fd : FuncData} {ps : List Str} {n : Nat} (F : FunD K "__init__" qual (defArgs st) (defBody st) (defScope st) [.non] [] f fd) (M : Mk K C f) (hn : n + 1 = ps.length)
    (h0 : ∀ (T : Addr) (kV doc pm : Value) (an : Option Addr) (cdv ct : Value) (us its : List Value), us.length = n → its.length = 1 →
      ∃ k, bindArgs (PySem.W.fnOf "__init__" qual (defArgs st) (defBody st) (defScope st) (.ref T) kV doc pm an cdv ct) ⟨us, []⟩ = seqItems? (.ref T) >>= k ∧ k (some its.toArray) = pure (ps.zip (us ++ its.drop 0)))
    (h1 : ∀ (T : Addr) (kV doc pm : Value) (an : Option Addr) (cdv ct : Value) (us its : List Value), us.length = n + 1 → its.length = 1 →
      ∃ k, bindArgs (PySem.W.fnOf "__init__" qual (defArgs st) (defBody st) (defScope st) (.ref T) kV doc pm an cdv ct) ⟨us, []⟩ = seqItems? (.ref T) >>= k ∧ k (some its.toArray) = pure (ps.zip (us ++ its.drop 1)))
    (h2 : ∀ (T : Addr) (kV doc pm : Value) (an : Option Addr) (cdv ct : Value) (us its ws : List Value), us.length = 1 → its.length = 1 → ws.length = 1 →
      ∃ k, bindArgs (PySem.W.fnOf "__init__" qual (defArgs st) (defBody st) (defScope st) (.ref T) kV doc pm an cdv ct) ⟨us, [ps.getD 1 Str.empty].zip ws⟩ = seqItems? (.ref T) >>= k ∧ k (some its.toArray) = pure (ps.zip (us ++ ws))) : IDef K C qual st ps := by
  obtain ⟨ds, hd, hb⟩ := F.binds1 n 0 (by simp) (by simpa using hn) h0
  obtain ⟨ds1, hd1, hb1⟩ := F.binds1 (n + 1) 1 (by simp) (by simpa using hn) h1
  have e : ds1 = [] := by
    have : Vals [] ds1 := hd1
    cases this
    rfl
  subst e
  obtain ⟨its, hk⟩ := F.kbindsD 1 [ps.getD 1 Str.empty] (fun us _ ws => us ++ ws) (by simp) (fun r1 _ r3 => r1.append r3) h2
  exact ⟨f, fd, F, M, hb1, hk, ds, hd, hb⟩
end
/-! ### calls of methods, making -/
section
variable {X : Cx} {K : PySem.W.Frag} {σ : St} {H H' : Hp} {Q : VK} {k j : Nat} {ps : List Str} {sp : Sp} {E : XK} {x m f : Str} {p pos apos : Pos} {o e : Expr} {es : List Expr} {ta te tv : TE} {t : TA} {C a dx : Addr} {fs : List (Str × V)} {v y z : V} {nx bk ct : St → Hp → Prop} {rt : VK} {vs : List V}
def uMeth (C : Addr) (m : Str) (sp : Sp) (E : XK) (t : TA) (σ : St) (x : V) (H : Hp) (Q : VK) : Prop := ∃ a dx fs, x = .ref a ∧ H a = some (.ins C dx fs) ∧ fs.lookup m = none ∧ t σ H fun vs H2 => sp (x :: vs) H2 Q E
def tMethU (C : Addr) (m : Str) (sp : Sp) (E : XK) (ta : TE) (t : TA) : TE := fun σ H Q => ta σ H fun x H1 => uMeth C m sp E t σ x H1 Q
theorem tMeth_eq : tMeth C m sp [] E ta t = tMethU C m sp E ta t := by
  funext σ H Q
  unfold tMeth tMethU uMeth
  simp only [List.append_nil]
theorem pe_methE {pl : Sem Bool} (G : MFn X.prog X.w X.K X.mg X.base k C m ps sp) (hr : Room j X.A) (hk : k ≤ j) (c : Cls X.K C) (hx : Passes (L2.CX X.prog X.w) X E) (he : PE X o ta) (ha : PA X (e :: es) t)
    (hst : starEach (e :: es) X.env = (false, eval e X.env) :: starEach es X.env := by rfl) (hpl : (backTo pos (starEach es X.env)).any (·.1) = false := by rfl)
    (ht : eval (.Call (.Attribute o m apos) (e :: es) [] pos) X.env = (do
      let ov ← eval o X.env
      standAt apos.atName
      let (f, first) ← holding [ov] (getMethod ov m pl)
      callWith pos f first (backTo pos (starEach (e :: es) X.env)) (backToKw pos (keywordEach [] X.env))) := by rfl) :
    PE X (.Call (.Attribute o m apos) (e :: es) [] pos) (tMethU C m sp E ta t) := by
  obtain ⟨f, fd, hm, hb, F⟩ := G.ex
  have h := pe_meth (dvs := []) he c hm (F.mono hk) hr hb .nil hx ha hst hpl ht
  rw [tMeth_eq] at h
  exact h
theorem pe_meth0E {pl : Sem Bool} (G : MFn X.prog X.w X.K X.mg X.base k C m ps sp) (hr : Room j X.A) (hk : k ≤ j) (c : Cls X.K C) (hx : Passes (L2.CX X.prog X.w) X E) (he : PE X o ta)
    (ht : eval (.Call (.Attribute o m apos) [] [] pos) X.env = (do
      let ov ← eval o X.env
      standAt apos.atName
      let (f, first) ← holding [ov] (getMethod ov m pl)
      callWith pos f first (backTo pos (starEach [] X.env)) (backToKw pos (keywordEach [] X.env))) := by rfl) :
    PE X (.Call (.Attribute o m apos) [] [] pos) (tMethU C m sp E ta tNil) := by
  obtain ⟨f, fd, hm, hb, F⟩ := G.ex
  have h := pe_meth0 (dvs := []) he c hm (F.mono hk) hr hb .nil hx ht
  rw [tMeth_eq] at h
  exact h
theorem pe_methN {pl : Sem Bool} (G : MFn X.prog X.w X.K X.mg X.base k C m ps sp) (hr : Room j X.A) (c : Cls X.K C) (he : PE X o ta) (ha : PA X (e :: es) t) (hk : k ≤ j := by decide)
    (hst : starEach (e :: es) X.env = (false, eval e X.env) :: starEach es X.env := by rfl) (hpl : (backTo pos (starEach es X.env)).any (·.1) = false := by rfl)
    (ht : eval (.Call (.Attribute o m apos) (e :: es) [] pos) X.env = (do
      let ov ← eval o X.env
      standAt apos.atName
      let (f, first) ← holding [ov] (getMethod ov m pl)
      callWith pos f first (backTo pos (starEach (e :: es) X.env)) (backToKw pos (keywordEach [] X.env))) := by rfl) :
    PE X (.Call (.Attribute o m apos) (e :: es) [] pos) (tMethU C m sp E0 ta t) := pe_methE G hr hk c passL he ha hst hpl ht
theorem pe_meth0N {pl : Sem Bool} (G : MFn X.prog X.w X.K X.mg X.base k C m ps sp) (hr : Room j X.A) (c : Cls X.K C) (he : PE X o ta) (hk : k ≤ j := by decide)
    (ht : eval (.Call (.Attribute o m apos) [] [] pos) X.env = (do
      let ov ← eval o X.env
      standAt apos.atName
      let (f, first) ← holding [ov] (getMethod ov m pl)
      callWith pos f first (backTo pos (starEach [] X.env)) (backToKw pos (keywordEach [] X.env))) := by rfl) :
    PE X (.Call (.Attribute o m apos) [] [] pos) (tMethU C m sp E0 ta tNil) := pe_meth0E G hr hk c passL he ht
theorem pe_methX {pl : Sem Bool} (G : MFn X.prog X.w X.K X.mg X.base k C m ps sp) (hr : Room j X.A) (c : Cls X.K C) (tk : Takes X (fun cls d _ H => E cls d H)) (he : PE X o ta) (ha : PA X (e :: es) t) (hk : k ≤ j := by decide)
    (hst : starEach (e :: es) X.env = (false, eval e X.env) :: starEach es X.env := by rfl) (hpl : (backTo pos (starEach es X.env)).any (·.1) = false := by rfl)
    (ht : eval (.Call (.Attribute o m apos) (e :: es) [] pos) X.env = (do
      let ov ← eval o X.env
      standAt apos.atName
      let (f, first) ← holding [ov] (getMethod ov m pl)
      callWith pos f first (backTo pos (starEach (e :: es) X.env)) (backToKw pos (keywordEach [] X.env))) := by rfl) :
    PE X (.Call (.Attribute o m apos) (e :: es) [] pos) (tMethU C m sp E ta t) := pe_methE G hr hk c (passes_call tk fun _ _ _ _ h => h) he ha hst hpl ht
theorem pe_meth0X {pl : Sem Bool} (G : MFn X.prog X.w X.K X.mg X.base k C m ps sp) (hr : Room j X.A) (c : Cls X.K C) (tk : Takes X (fun cls d _ H => E cls d H)) (he : PE X o ta) (hk : k ≤ j := by decide)
    (ht : eval (.Call (.Attribute o m apos) [] [] pos) X.env = (do
      let ov ← eval o X.env
      standAt apos.atName
      let (f, first) ← holding [ov] (getMethod ov m pl)
      callWith pos f first (backTo pos (starEach [] X.env)) (backToKw pos (keywordEach [] X.env))) := by rfl) :
    PE X (.Call (.Attribute o m apos) [] [] pos) (tMethU C m sp E ta tNil) := pe_meth0E G hr hk c (passes_call tk fun _ _ _ _ h => h) he ht
theorem r_meth (q : ta σ H fun x H1 => uMeth C m sp E t σ x H1 Q) : tMethU C m sp E ta t σ H Q := q
theorem r_methi (h : H a = some (.ins C dx fs)) (hn : fs.lookup m = none) (q : t σ H fun vs H2 => sp (.ref a :: vs) H2 Q E) : uMeth C m sp E t σ (.ref a) H Q := ⟨a, dx, fs, rfl, h, hn, q⟩
/-- a new instance -/
def uMake (C : Addr) (sp : Sp) (dvs : List V) (E : XK) (vs : List V) (H : Hp) (Q : VK) : Prop := ∀ x dx, H x = none → H dx = none → dx ≠ x →
  sp (.ref x :: (vs ++ dvs)) (upd (upd H dx (.own x)) x (.ins C dx [])) (fun v H2 => v = .non ∧ Q (.ref x) H2) E
def tMakeU (C : Addr) (sp : Sp) (dvs : List V) (E : XK) (t : TA) : TE := fun σ H Q => t σ H fun vs H1 => uMake C sp dvs E vs H1 Q
theorem pe_makeE (G : IFn X.prog X.w X.K X.mg X.base k C ps sp) (T : ClT X.K X.mg x C) (hr : Room (j + 1) X.A) (hk : k ≤ j) (hg : Gl X x) (hx : Passes (L2.CX X.prog X.w) X E) (ha : PA X (e :: es) t)
    (hdb : (x == ("__debug__" : Str)) = false := by decide) (he : starEach (e :: es) X.env = (false, eval e X.env) :: starEach es X.env := by rfl) (hpl : (backTo pos (starEach es X.env)).any (·.1) = false := by rfl) :
    PE X (.Call (.Name x p) (e :: es) [] pos) (tMakeU C sp [] E t) := by
  obtain ⟨f, fd, hm, hb, _, _, F⟩ := G.ex
  exact pe_make (dvs := []) hm (F.mono hk) hr hg T.g hb .nil hx ha hdb he hpl
theorem pe_make0E (G : IFn X.prog X.w X.K X.mg X.base k C ps sp) (T : ClT X.K X.mg x C) (hr : Room (j + 1) X.A) (hk : k ≤ j) (hg : Gl X x) (hx : Passes (L2.CX X.prog X.w) X E) (hdb : (x == ("__debug__" : Str)) = false := by decide) :
    PE X (.Call (.Name x p) [] [] pos) (tMakeU C sp [.non] E tNil) := by
  obtain ⟨f, fd, hm, _, _, ⟨ds, hd, hb⟩, F⟩ := G.ex
  exact pe_make0 (dvs := [.non]) hm (F.mono hk) hr hg T.g hb hd hx hdb
theorem pe_makeNo (G : IFn X.prog X.w X.K X.mg X.base k C ps sp) (T : ClT X.K X.mg x C) (hr : Room (j + 1) X.A) (ha : PA X (e :: es) t) (hk : k ≤ j := by decide) (hg : Gl X x := by rfl)
    (hdb : (x == ("__debug__" : Str)) = false := by decide) (he : starEach (e :: es) X.env = (false, eval e X.env) :: starEach es X.env := by rfl) (hpl : (backTo pos (starEach es X.env)).any (·.1) = false := by rfl) :
    PE X (.Call (.Name x p) (e :: es) [] pos) (tMakeU C sp [] E0 t) := pe_makeE G T hr hk hg passL ha hdb he hpl
theorem pe_make0No (G : IFn X.prog X.w X.K X.mg X.base k C ps sp) (T : ClT X.K X.mg x C) (hr : Room (j + 1) X.A) (hk : k ≤ j := by decide) (hg : Gl X x := by rfl) (hdb : (x == ("__debug__" : Str)) = false := by decide) :
    PE X (.Call (.Name x p) [] [] pos) (tMakeU C sp [.non] E0 tNil) := pe_make0E G T hr hk hg passL hdb
theorem pe_makePE (G : PFn X.prog X.w X.K X.mg X.base k C ps sp) (T : ClT X.K X.mg x C) (hr : Room (j + 1) X.A) (hk : k ≤ j) (hg : Gl X x) (hx : Passes (L2.CX X.prog X.w) X E) (ha : PA X (e :: es) t)
    (hdb : (x == ("__debug__" : Str)) = false := by decide) (he : starEach (e :: es) X.env = (false, eval e X.env) :: starEach es X.env := by rfl) (hpl : (backTo pos (starEach es X.env)).any (·.1) = false := by rfl) :
    PE X (.Call (.Name x p) (e :: es) [] pos) (tMakeU C sp [] E t) := by
  obtain ⟨f, fd, hm, hb, F⟩ := G.ex
  exact pe_make (dvs := []) hm (F.mono hk) hr hg T.g hb .nil hx ha hdb he hpl
theorem pe_makePNo (G : PFn X.prog X.w X.K X.mg X.base k C ps sp) (T : ClT X.K X.mg x C) (hr : Room (j + 1) X.A) (ha : PA X (e :: es) t) (hk : k ≤ j := by decide) (hg : Gl X x := by rfl)
    (hdb : (x == ("__debug__" : Str)) = false := by decide) (he : starEach (e :: es) X.env = (false, eval e X.env) :: starEach es X.env := by rfl) (hpl : (backTo pos (starEach es X.env)).any (·.1) = false := by rfl) :
    PE X (.Call (.Name x p) (e :: es) [] pos) (tMakeU C sp [] E0 t) := pe_makePE G T hr hk hg passL ha hdb he hpl
theorem pe_makeP0E (G : PFn X.prog X.w X.K X.mg X.base k C ps sp) (T : ClT X.K X.mg x C) (hr : Room (j + 1) X.A) (hk : k ≤ j) (hg : Gl X x) (hx : Passes (L2.CX X.prog X.w) X E) (hdb : (x == ("__debug__" : Str)) = false := by decide) :
    PE X (.Call (.Name x p) [] [] pos) (tMakeU C sp [] E tNil) := by
  obtain ⟨f, fd, hm, hb, F⟩ := G.ex
  exact pe_make0 (dvs := []) hm (F.mono hk) hr hg T.g hb .nil hx hdb
theorem pe_makeP0No (G : PFn X.prog X.w X.K X.mg X.base k C ps sp) (T : ClT X.K X.mg x C) (hr : Room (j + 1) X.A) (hk : k ≤ j := by decide) (hg : Gl X x := by rfl) (hdb : (x == ("__debug__" : Str)) = false := by decide) :
    PE X (.Call (.Name x p) [] [] pos) (tMakeU C sp [] E0 tNil) := pe_makeP0E G T hr hk hg passL hdb
/-- C(k = v) -/
def uMakeK (C : Addr) (sp : Sp) (E : XK) (zs : List V) (H : Hp) (Q : VK) : Prop := ∃ z, zs = [z] ∧ uMake C sp [] E [z] H Q
def tMakeKw (C : Addr) (sp : Sp) (E : XK) (tk : TA) : TE := fun σ H Q => tk σ H fun zs H2 => uMakeK C sp E zs H2 Q
theorem pe_makeKw {kws : List Keyword} {tk : TA} (G : IFn X.prog X.w X.K X.mg X.base k C ps sp) (T : ClT X.K X.mg x C) (hr : Room (j + 1) X.A) (hkw : PK X kws tk) (hk : k ≤ j := by decide) (hg : Gl X x := by rfl)
    (hall : (backToKw pos (keywordEach kws X.env)).all (·.1.isSome) = true := by rfl) (hks : (backToKw pos (keywordEach kws X.env)).filterMap (·.1) = [ps.getD 1 Str.empty] := by rfl) (hdb : (x == ("__debug__" : Str)) = false := by decide)
    (hpl : ((backTo pos (starEach [] X.env)).any (·.1) || (backToKw pos (keywordEach kws X.env)).any (·.1.isNone)) = false := by rfl) :
    PE X (.Call (.Name x p) [] kws pos) (tMakeKw C sp E0 tk) := by
  obtain ⟨f, fd, hm, _, hb, _, F⟩ := G.ex
  have h := pe_makeK0 (p := p) (pos := pos) hm (F.mono hk) hr hg T.g hb passL hkw hall hks hdb hpl
  have e : tMakeK C 0 ([ps.getD 1 Str.empty] : List Str).length sp (fun vs zs => vs ++ zs) E0 tNil tk = tMakeKw C sp E0 tk := by
    funext σ H Q
    show tk σ H (fun zs H2 => ([] : List V).length = 0 ∧ zs.length = 1 ∧ ∀ x dx, H2 x = none → H2 dx = none → dx ≠ x → sp ([.ref x] ++ zs) (upd (upd H2 dx (.own x)) x (.ins C dx [])) (fun v H3 => v = .non ∧ Q (.ref x) H3) E0) = tk σ H (fun zs H2 => uMakeK C sp E0 zs H2 Q)
    congr 1
    funext zs H2
    apply propext
    constructor
    · rintro ⟨_, h1, h2⟩
      obtain ⟨z, rfl⟩ := List.length_eq_one_iff.mp h1
      exact ⟨z, rfl, h2⟩
    · rintro ⟨z, rfl, h2⟩
      exact ⟨rfl, rfl, h2⟩
  rw [e] at h
  exact h
theorem r_makeKw {tk : TA} (q : tk σ H fun zs H2 => uMakeK C sp E zs H2 Q) : tMakeKw C sp E tk σ H Q := q
theorem r_makeKi (q : uMake C sp [] E [z] H Q) : uMakeK C sp E [z] H Q := ⟨z, rfl, q⟩
theorem r_make {dvs : List V} (q : t σ H fun vs H1 => uMake C sp dvs E vs H1 Q) : tMakeU C sp dvs E t σ H Q := q
theorem r_makei {dvs : List V} (q : ∀ x dx H', H x = none → H dx = none → dx ≠ x → Same H H' → H' x = some (.ins C dx []) → sp (.ref x :: (vs ++ dvs)) H' (fun v H2 => v = .non ∧ Q (.ref x) H2) E) : uMake C sp dvs E vs H Q := fun x dx h1 h2 h3 =>
  q x dx _ h1 h2 h3 (fun b o e => by rw [upd_ne (ne_of_none e h1), upd_ne (ne_of_none e h2)]; exact e) upd_same
/-! fields -/
def uFld (K : PySem.W.Frag) (f : Str) (x : V) (H : Hp) (Q : VK) : Prop := ∃ a C dx fs v, x = .ref a ∧ H a = some (.ins C dx fs) ∧ Cls K C ∧ NoAttr K C f ∧ fs.lookup f = some v ∧ Q v H
theorem r_fld (q : ta σ H fun x H1 => uFld K f x H1 Q) : tFld K ta f σ H Q := q
theorem r_fldi (c : Cls K C) (n : NoAttr K C f) (h : H a = some (.ins C dx fs)) (l : fs.lookup f = some v) (q : Q v H) : uFld K f (.ref a) H Q := ⟨a, C, dx, fs, v, rfl, h, c, n, l, q⟩
def uSetF (K : PySem.W.Frag) (f : Str) (x y : V) (H : Hp) (R : Hp → Prop) : Prop := ∃ a C dx fs, x = .ref a ∧ H a = some (.ins C dx fs) ∧ Cls K C ∧ NoAttr K C f ∧ fs.length < 1000 ∧ R (upd H a (.ins C dx (putF f y fs)))
theorem r_sfld (q : tv σ H fun y H1 => ta σ H1 fun x H2 => uSetF K f x y H2 fun H3 => nx σ H3) : sFld K ta tv f ⟨nx, rt, bk, ct⟩ σ H := q
theorem r_sfldi {R : Hp → Prop} {fs' : List (Str × V)} (c : Cls K C) (n : NoAttr K C f) (h : H a = some (.ins C dx fs)) (hl : fs.length < 1000) (e : putF f y fs = fs') (q : ∀ H', Keep (At a) H H' → H' a = some (.ins C dx fs') → R H') : uSetF K f (.ref a) y H R :=
  ⟨a, C, dx, fs, rfl, h, c, n, hl, q _ Keep.at_ (by rw [upd_same, e])⟩
def uFAug (K : PySem.W.Frag) (tv : TE) (f : Str) (x : V) (σ : St) (H : Hp) (R : Hp → Prop) : Prop := ∃ a C dx fs v, x = .ref a ∧ H a = some (.ins C dx fs) ∧ Cls K C ∧ NoAttr K C f ∧ fs.lookup f = some v ∧
  tv σ H fun y H2 => rAdd v y H2 fun z H3 => ∃ dx' fs', H3 a = some (.ins C dx' fs') ∧ fs'.length < 1000 ∧ R (upd H3 a (.ins C dx' (putF f z fs')))
def uEndA (i : Int) (a : Addr) (f : Str) (C : Addr) (y : V) (H : Hp) (R : Hp → Prop) : Prop := rAdd (.int i) y H fun z H3 => ∃ dx' fs', H3 a = some (.ins C dx' fs') ∧ fs'.length < 1000 ∧ R (upd H3 a (.ins C dx' (putF f z fs')))
theorem r_faug (q : ta σ H fun x H1 => uFAug K tv f x σ H1 fun H2 => nx σ H2) : sFldAug K ta tv rAdd f ⟨nx, rt, bk, ct⟩ σ H := q
theorem r_faugi {R : Hp → Prop} {i : Int} (c : Cls K C) (n : NoAttr K C f) (h : H a = some (.ins C dx fs)) (l : fs.lookup f = some (.int i)) (q : tv σ H fun y H2 => uEndA i a f C y H2 R) : uFAug K tv f (.ref a) σ H R := ⟨a, C, dx, fs, .int i, rfl, h, c, n, l, q⟩
theorem r_enda {R : Hp → Prop} {i j : Int} {fs' : List (Str × V)} (h : H a = some (.ins C dx fs)) (hl : fs.length < 1000) (e : putF f (.int (i + j)) fs = fs') (q : ∀ H', Keep (At a) H H' → H' a = some (.ins C dx fs') → R H') : uEndA i a f C (.int j) H R :=
  ⟨i, j, rfl, rfl, dx, fs, h, hl, q _ Keep.at_ (by rw [upd_same, e])⟩
theorem lk_here {k : Str} {r : List (Str × V)} : ((k, v) :: r).lookup k = some v := by simp [List.lookup]
theorem lk_next {k k' : Str} {r : List (Str × V)} {o : Option V} (h : (k == k') = false) (q : r.lookup k = o) : ((k', v) :: r).lookup k = o := by simp [List.lookup, h, q]
theorem lk_nil {k : Str} : ([] : List (Str × V)).lookup k = none := rfl
theorem pf_nil {k : Str} : putF k v [] = [(k, v)] := rfl
theorem pf_here {k : Str} {r : List (Str × V)} : putF k y ((k, v) :: r) = (k, y) :: r := by simp [putF]
theorem pf_next {k g : Str} {r r' : List (Str × V)} (h : (g == k) = false) (q : putF k y r = r') : putF k y ((g, v) :: r) = (g, v) :: r' := by
  have h' : ¬ g = k := by simpa using h
  simp [putF, h', q]
end
/-! ### dicts by tuples of numbers -/
section
variable {X : Cx} {K : PySem.W.Frag} {σ : St} {H H' : Hp} {Q : VK} {td ty : TE} {a b : Addr} {kvs : List (List Key × V)} {l : Nat} {s : Int} {v x y : V}
theorem r_dputT {R : Hp → Prop} {i j : Int} (hd : H a = some (.dT kvs)) (hb : H b = some (.tup [.int i, .int j])) (hl : kvs.length ≤ 10000000) (q : ∀ H', Keep (At a) H H' → H' a = some (.dT (putK kvs [Sum.inl i, Sum.inl j] v)) → R H') : uDPut (.ref a) (.ref b) v H R :=
  ⟨a, _, rfl, DPut.t (k := [Sum.inl i, Sum.inl j]) hd hb (by rw [sizeLine_eq]; omega), q _ Keep.at_ upd_same⟩
def uDG1 (ty : TE) (σ : St) (x : V) (H : Hp) (Q : VK) : Prop := ∃ a, x = .ref a ∧ IsD H a ∧ ty σ H fun y H2 => ∃ o, DGet H2 a y o ∧ Q (o.getD .non) H2
def uDG2 (a : Addr) (y : V) (H : Hp) (Q : VK) : Prop := ∃ o, DGet H a y o ∧ Q (o.getD .non) H
theorem r_dget1 (q : td σ H fun x H1 => uDG1 ty σ x H1 Q) : tDGet1 td ty σ H Q := q
theorem r_dg1T (hd : H a = some (.dT kvs)) (q : ty σ H fun y H2 => uDG2 a y H2 Q) : uDG1 ty σ (.ref a) H Q := ⟨a, rfl, .inr ⟨kvs, .inl hd⟩, q⟩
theorem r_dg2T {i j : Int} (hd : H a = some (.dT kvs)) (hb : H b = some (.tup [.int i, .int j])) (q : Q ((valV kvs [Sum.inl i, Sum.inl j]).getD .non) H) : uDG2 a (.ref b) H Q :=
  ⟨_, DGet.t (k := [Sum.inl i, Sum.inl j]) hd hb, q⟩
theorem r_dg1K {m : Prs} (hd : H a = some (.dK (m.map inj))) (q : ty σ H fun y H2 => uDG2 a y H2 Q) : uDG1 ty σ (.ref a) H Q := ⟨a, rfl, .inl ⟨_, .inl hd⟩, q⟩
theorem r_dg2K {m : Prs} {i : Int} (hd : H a = some (.dK (m.map inj))) (q : Q (((valP m i).map V.int).getD .non) H) : uDG2 a (.int i) H Q := by
  refine ⟨_, DGet.k (k := Sum.inl i) hd, ?_⟩
  rw [val_inj]
  exact q
/-- (x,) * k -/
theorem r_repT {xs : List V} {k : Int} (h : SqT K H a xs) (hn : xs ≠ []) (hk : 2 ≤ k ∧ k ≤ 1000) (hl : xs.length ≤ 1000) (q : ∀ p H', H p = none → Same H H' → H' p = some (.tup (List.replicate k.toNat xs).flatten) → Q (.ref p) H') : rRepT K (.ref a) (.int k) H Q :=
  ⟨a, k, xs, rfl, rfl, h, hn, hk.1, hk.2, hl, fun p hp => q p _ hp (Keep.same (Keep.new hp)) upd_same⟩
end
/-! ### x or y, whatever they are -/
section
variable {X : Cx} {σ : St} {H H' : Hp} {Q : VK} {ta tb : TE} {a : Expr} {b : Expr} {rest : List Expr} {pos : Pos} {p : Addr} {xs : List V}
theorem peK_orT (K : PySem.W.Frag) (ha : PE X a ta) (hb : PE X (.BoolOp .Or (b :: rest) pos) tb) (hK : X.K = K := by rfl) : PE X (.BoolOp .Or (a :: b :: rest) pos) (tOrT K ta tb) := hK ▸ pe_orT ha hb
def uOrT (K : PySem.W.Frag) (tb : TE) (σ : St) (x : V) (H : Hp) (Q : VK) : Prop := ∃ k, TruV K x H k ∧ if k = true then Q x H else tb σ H Q
theorem r_orT {K : PySem.W.Frag} (q : ta σ H fun x H1 => uOrT K tb σ x H1 Q) : tOrT K ta tb σ H Q := q
theorem r_orTn {K : PySem.W.Frag} (q : tb σ H Q) : uOrT K tb σ .non H Q := ⟨false, rfl, by rw [if_neg (by decide)]; exact q⟩
theorem r_orTt {K : PySem.W.Frag} (h : SqT K H p xs) (q1 : xs ≠ [] → Q (.ref p) H) (q2 : xs = [] → tb σ H Q) : uOrT K tb σ (.ref p) H Q := by
  refine ⟨!xs.isEmpty, .inr (.inl ⟨xs, h, rfl⟩), ?_⟩
  cases xs with
  | nil => rw [if_neg (by decide)]; exact q2 rfl
  | cons x r => rw [if_pos (show (!(x :: r).isEmpty) = true from rfl)]; exact q1 (by simp)
theorem r_dnewT (q : ∀ p H', H p = none → Same H H' → H' p = some (.dT []) → Q (.ref p) H') : tDNewT σ H Q := fun p hp => q p _ hp (Keep.same (Keep.new hp)) upd_same
end
/-! ### a sample put into a curve -/
def insC (c : Prs) (t h : Int) : Prs := (c.filter fun p => decide (p.1 < t)) ++ (t, h) :: (c.filter fun p => decide (t < p.1))
theorem insC_mem {c : Prs} {t h : Int} {p : Int × Int} : p ∈ insC c t h ↔ p = (t, h) ∨ (p ∈ c ∧ p.1 ≠ t) := by
  unfold insC
  simp only [List.mem_append, List.mem_cons, List.mem_filter, decide_eq_true_eq]
  constructor
  · rintro (⟨h1, h2⟩ | h1 | ⟨h1, h2⟩)
    · exact .inr ⟨h1, by omega⟩
    · exact .inl h1
    · exact .inr ⟨h1, by omega⟩
  · rintro (h1 | ⟨h1, h2⟩)
    · exact .inr (.inl h1)
    · by_cases z : p.1 < t
      · exact .inl ⟨h1, z⟩
      · exact .inr (.inr ⟨h1, by omega⟩)
theorem insC_up {c : Prs} (hc : c.Pairwise fun p q => p.1 < q.1) (t h : Int) : (insC c t h).Pairwise fun p q => p.1 < q.1 := by
  unfold insC
  rw [List.pairwise_append]
  refine ⟨hc.sublist List.filter_sublist, List.pairwise_cons.mpr ⟨fun p hp => ?_, hc.sublist List.filter_sublist⟩, fun p hp q hq => ?_⟩
  · simpa using (List.mem_filter.mp hp).2
  · have h1 : p.1 < t := by simpa using (List.mem_filter.mp hp).2
    rcases List.mem_cons.mp hq with rfl | hq
    · exact h1
    · have h2 : t < q.1 := by simpa using (List.mem_filter.mp hq).2
      omega
theorem beside_of {c c' : Prs} {t : Int} (hc : c.Pairwise fun p q => p.1 < q.1) (hc' : c'.Pairwise fun p q => p.1 < q.1) (h : ∀ p : Int × Int, p.1 ≠ t → (p ∈ c' ↔ p ∈ c)) : Beside t c c' := by
  intro b e hn
  refine up_ext (hc'.sublist List.filter_sublist) (hc.sublist List.filter_sublist) fun p => ?_
  unfold partL
  rw [List.mem_filter, List.mem_filter]
  by_cases z : p.1 = t
  · simp only [Bool.and_eq_true, decide_eq_true_eq]
    constructor
    · rintro ⟨_, h1, h2⟩; exact absurd ⟨by omega, by omega⟩ hn
    · rintro ⟨_, h1, h2⟩; exact absurd ⟨by omega, by omega⟩ hn
  · rw [h p z]
theorem insC_beside {c : Prs} (hc : c.Pairwise fun p q => p.1 < q.1) (t h : Int) : Beside t c (insC c t h) := beside_of hc (insC_up hc t h) fun p hp => by
  rw [insC_mem]
  constructor
  · rintro (z | z)
    · exact absurd (by rw [z]) hp
    · exact z.1
  · exact fun z => .inr ⟨z, hp⟩
theorem insC_take {c : Prs} (hc : c.Pairwise fun p q => p.1 < q.1) {i : Nat} {q : Int × Int} (h : c[i]? = some q) : insC (c.take i) q.1 q.2 = c.take (i + 1) := by
  have h1 := hc.sublist (List.take_sublist i c)
  refine up_ext (insC_up h1 _ _) (hc.sublist (List.take_sublist _ c)) fun p => ?_
  rw [insC_mem, take_snoc h, List.mem_append, List.mem_singleton]
  have hs := hc.sublist (List.take_sublist (i + 1) c)
  rw [take_snoc h, List.pairwise_append] at hs
  constructor
  · rintro (h2 | ⟨h2, _⟩)
    · exact .inr h2
    · exact .inl h2
  · rintro (h2 | h2)
    · have := hs.2.2 p h2 q (by simp)
      exact .inr ⟨h2, by omega⟩
    · exact .inl h2
theorem fourInv_nil (K : PySem.W.Frag) (H : Hp) : FourInv K H [] [] := fun l s _ => by
  rw [if_neg (by omega)]
  exact .none
end Fp
/-! ### t[::-1] of a tuple -/
namespace FpRev
open PySem PySem.Spec PyProof.Rows HT
section
variable {prog : Program} {w : World} {A : Around} {E : Value → Shared → Prop} {s : Shared}
theorem adj (n : Nat) : Builtin.Slice.sliceAdjust none none (-1) (n : Int) = ((n : Int) - 1, -1) := by
  unfold Builtin.Slice.sliceAdjust
  simp
theorem plc (n : Nat) : Builtin.Slice.slicePlaces ((n : Int) - 1) (-1) (-1) = n := by
  unfold Builtin.Slice.slicePlaces
  simp
  try omega
theorem applied {sp : Addr} {va vb : Value} {tk : Tok} {n : Nat} {Q : Int × Int × Nat → Shared → Prop} (hs : s.heap.IsSliceOf sp va vb (.int (-1) tk)) (pa : IsPart va none) (pb : IsPart vb none)
    (h : Q ((n : Int) - 1, -1, n) s) : wpAny (model prog w) A (Builtin.Slice.sliceApplied (.ref sp) (pure (n : Int))) Q E s := by
  obtain ⟨ob, h1, h2, h3⟩ := id hs
  unfold Builtin.Slice.sliceApplied Builtin.Slice.sliceFields
  refine wpAny_bind (wpAny_bind (wpAny_field h1 h3 (x := va) rfl (wpAny_bind (wpAny_field h1 h3 (x := vb) rfl (wpAny_bind (wpAny_field h1 h3 (x := .int (-1) tk) rfl (wpAny_pure ?_)))))))
  refine wpAny_bind (slicePart_int ?_)
  show wpAny _ _ (if ((-1 : Int) == 0) = true then _ else _) _ _ s
  rw [if_neg (by decide)]
  refine wpAny_bind (slicePart_ pa (wpAny_bind (slicePart_ pb (wpAny_bind (wpAny_pure ?_)))))
  show wpAny _ _ (match Builtin.Slice.sliceAdjust none none (-1) (n : Int) with | (a, b) => pure (a, (-1 : Int), Builtin.Slice.slicePlaces a b (-1))) _ _ s
  rw [adj n]
  show wpAny _ _ (pure ((n : Int) - 1, (-1 : Int), Builtin.Slice.slicePlaces ((n : Int) - 1) (-1) (-1))) _ _ s
  rw [plc]
  exact wpAny_pure h
theorem pickR (xs : Array Value) : ((List.range xs.size).filterMap fun (m : Nat) => xs[(((xs.size : Int) - 1) + (m : Int) * (-1)).toNat]?).toArray = xs.toList.reverse.toArray := by
  congr 1
  have e : ∀ n, n ≤ xs.size → ((List.range n).filterMap fun (m : Nat) => xs[(((xs.size : Int) - 1) + (m : Int) * (-1)).toNat]?) = xs.toList.reverse.take n := by
    intro n
    induction n with
    | zero => intro _; simp
    | succ n ih =>
      intro hn
      rw [List.range_succ, List.filterMap_append, ih (by omega)]
      have h1 : (((xs.size : Int) - 1) + (n : Int) * (-1)).toNat = xs.size - 1 - n := by omega
      have h2 : xs.toList.reverse[n]? = some (xs[xs.size - 1 - n]'(by omega)) := by
        rw [List.getElem?_reverse (by rw [Array.length_toList]; omega)]
        simp
      rw [take_snocR h2]
      congr 1
      simp only [List.filterMap_cons, List.filterMap_nil, h1]
      rw [Array.getElem?_eq_getElem (by omega)]
  rw [e _ (Nat.le_refl _), List.take_of_length_le (by simp)]
where
  take_snocR {l : List Value} {n : Nat} {x : Value} (h : l[n]? = some x) : l.take (n + 1) = l.take n ++ [x] := Fp.take_snoc h
theorem tup_rev {tp sp : Addr} {its : Array Value} {va vb : Value} {tk : Tok} {Q : Value → Shared → Prop} (ht : IsTup s.heap tp its) (hs : s.heap.IsSliceOf sp va vb (.int (-1) tk)) (pa : IsPart va none) (pb : IsPart vb none)
    (h : Q (.ref s.heap.objs.size) { s with heap := s.heap.push { cls := .type "tuple", data := .seq its.toList.reverse.toArray } }) (hz : its.size ≤ sizeLine) : wpAny (model prog w) A (getItem (.ref tp) (.ref sp)) Q E s := by
  have hsz : sizeOk (.seq its.toList.reverse.toArray) := by
    show its.toList.reverse.toArray.size ≤ sizeLine
    rw [List.size_toArray, List.length_reverse, Array.length_toList]
    exact hz
  obtain ⟨ob, h1, h2, h3⟩ := id hs
  have hS : s.TypeIs (.ref sp) "slice" := ⟨ob, h1, h2⟩
  unfold getItem
  try with_reducible refine wpAny_holding ?_
  first | refine wpAny_bind (wpAny_pure ?_) | skip
  refine wpAny_bind (wpAny_sequenceKey ht.typeIs (by decide) ?_)
  refine wpAny_bind (wpAny_callSpecial?_slot (name := Str.ofString "__getitem__") ht.typeIs PyProof.Rows.slot_tuple_getitem (wpAny_call_entry PyProof.Rows.slot_tuple_getitem ht.typeIs entry_tuple_getitem ?_ (args_tuple_getitem _ _)))
  show wpAny _ _ (Builtin.Tuple.tupleItemsOf (.ref tp) >>= _) _ _ s
  refine wpAny_bind (tupleItemsOf_ ht ?_)
  refine wpAny_bind (wpAny_typeOf hS ?_)
  rw [if_pos (by decide)]
  refine wpAny_bind (applied hs pa pb ?_)
  have hno : ¬ ((((its.size : Int) - 1) == 0 && (-1 : Int) == 1 && its.size == its.size) = true) := by simp
  show wpAny _ _ (if (((its.size : Int) - 1) == 0 && (-1 : Int) == 1 && its.size == its.size) = true then _ else _) _ _ s
  rw [if_neg hno, pickR]
  first
    | exact wpAny_bind (m := Builtin.Tuple.tupleExact _) (wpAny_newObj_type (wpAny_pure ⟨_, rfl, wpAny_pure h⟩) hsz)
    | exact wpAny_bind (m := Builtin.Tuple.tupleExact _) (wpAny_newObj_type (wpAny_bind (wpAny_pure (wpAny_pure ⟨_, rfl, wpAny_pure h⟩))) hsz)
    | exact wpAny_bind (wpAny_bind (m := Builtin.Tuple.tupleExact _) (wpAny_newObj_type (wpAny_pure (wpAny_pure ⟨_, rfl, wpAny_pure h⟩)) hsz))
    | exact wpAny_bind (wpAny_bind (m := Builtin.Tuple.tupleExact _) (wpAny_newObj_type (wpAny_pure ⟨_, rfl, wpAny_pure h⟩) hsz))
end
end FpRev
namespace Fp
open PySem PySem.Spec PyProof.Rows L2
section
variable {X : Cx} {K : PySem.W.Frag} {σ : St} {H : Hp} {Q : VK} {te : TE} {e : Expr} {a : Addr} {xs : List V}
def uRevT (K : PySem.W.Frag) (x : V) (H : Hp) (Q : VK) : Prop := ∃ a xs, x = .ref a ∧ SqT K H a xs ∧ ∀ p, H p = none → Q (.ref p) (upd H p (.tup xs.reverse))
def tRevT (K : PySem.W.Frag) (te : TE) : TE := fun σ H Q => te σ H fun x H1 => uRevT K x H1 Q
theorem peK_revT (K : PySem.W.Frag) {k : Nat} {p1 p2 p3 pos : Pos} (he : PE X e te) (hK : X.K = K := by rfl) : PE X (.Subscript e (.Slice none none (some (.UnaryOp .USub (.Constant (.int 1) k p1) p2)) p3) pos) (tRevT K te) := by
  subst hK
  refine ⟨fun pins s σ H Q I h => Subscript_ (thn (he.run pins s σ H _ I h) fun v s1 ⟨x, H1, I1, r1, q1⟩ => ?_)⟩
  obtain ⟨a, xs, ex, hx, q⟩ := q1
  subst ex
  cases r1
  have st : PO X (some (.UnaryOp .USub (.Constant (.int 1) k p1) p2)) (tPart (tUn (rU fun i => .int (-i)) (tC (.int 1)))) := po_some (pe_un un_neg pe_int)
  refine wpAny_Slice (thn (po_none.run pins s1 σ H1 (fun o H2 => o = none ∧ H2 = H1) I1 ⟨rfl, rfl⟩) fun va s2 ⟨l, H2, I2, pl, el, e2⟩ => ?_)
  subst el e2
  refine thn (po_none.run pins s2 σ H2 (fun o H3 => o = none ∧ H3 = H2) I2 ⟨rfl, rfl⟩) fun vb s3 ⟨u, H3, I3, pu, eu, e3⟩ => ?_
  subst eu e3
  refine thn (st.run pins s3 σ H3 (fun o H4 => o = some (-1) ∧ H4 = H3) I3 ⟨1, rfl, -1, rfl, rfl, rfl⟩) fun vc s4 ⟨o, H4, I4, ps, eo, e4⟩ => ?_
  subst eo e4
  cases ps with
  | int _ tk =>
  have I5 : Inv X pins σ H4 { s4 with heap := s4.heap.push { cls := .type "slice", data := .fields #[va, vb, .int (-1) tk] } } := I4.kept (t' := s4.toks) fun b ob q => Heap.get?_push_of_some _ q
  obtain ⟨its, r, ht, hz⟩ := I5.tuple hx
  have hlen : its.toArray.size = xs.length := by rw [List.size_toArray]; exact r.length.symm
  show wpAny (model X.prog X.w) X.A (subscriptTail e (.Slice none none (some (.UnaryOp .USub (.Constant (.int 1) k p1) p2)) p3) (.ref a) (.ref s4.heap.objs.size)) (EP X pins σ Q) X.xe { s4 with heap := s4.heap.push { cls := .type "slice", data := .fields #[va, vb, .int (-1) tk] } }
  refine tail_any (ops := [.ref a, .ref s4.heap.objs.size]) ht.typeIs (PyProof.Rows.slot_tuple_getitem.lookup) ?_ (by with_unfolding_all rfl)
  refine FpRev.tup_rev ht (Heap.IsSliceOf.new _ va vb _) pl pu ?_ (by rw [hlen]; exact hz)
  refine ⟨.ref _, _, I5.laid (t' := s4.toks) (o := .tup xs.reverse) (fun b ob q => Heap.get?_push_of_some _ q) (Nat.le_refl _) ?_, rfl, q _ (I5.hok.fresh (Nat.le_refl _))⟩
  exact ⟨by rw [List.length_reverse]; exact hz, _, r.reverse, IsTup.new _ _⟩
theorem r_revT (q : te σ H fun x H1 => uRevT K x H1 Q) : tRevT K te σ H Q := q
theorem r_revt (h : SqT K H a xs) (q : ∀ p H', H p = none → Same H H' → H' p = some (.tup xs.reverse) → Q (.ref p) H') : uRevT K (.ref a) H Q := ⟨a, xs, rfl, h, fun p hp => q p _ hp (Keep.same (Keep.new hp)) upd_same⟩
end
end Fp
/-! more of dicts by numbers: pop, in, clear, copies, items sorted; lists of pairs sorted -/
namespace Fp
open PySem PySem.Spec PyProof.Rows L2
/-! ### lists of pairs, sorted -/
theorem lexB_irr (p : Int × Int) : SrtO.lexB p p = false := SrtO.lexB_no.mpr (by omega)
abbrev Lex (l : Prs) : Prop := SrtO.Srtd SrtO.lexB l
theorem dp_pair_inj {X : Cx} {pins : List (Addr × Obj)} {σ : St} {H : Hp} {s : Shared} (I : Inv X pins σ H s) {v : V} {p q : Int × Int} (h1 : Dp X.K H v (pairP p)) (h2 : Dp X.K H v (pairP q)) : p = q := by
  obtain ⟨a, rfl, e1⟩ := dp_pair h1
  obtain ⟨b, e, e2⟩ := dp_pair h2
  cases e
  have z := I.tuple_inj e1 e2
  simp only [List.cons.injEq, V.int.injEq, and_true] at z
  exact Prod.ext z.1 z.2
open Classical in
noncomputable def keyOf (K : PySem.W.Frag) (H : Hp) (v : V) : Int × Int := if h : ∃ p, Dp K H v (pairP p) then choose h else (0, 0)
theorem keyOf_is {X : Cx} {pins : List (Addr × Obj)} {σ : St} {H : Hp} {s : Shared} (I : Inv X pins σ H s) {v : V} {p : Int × Int} (h : Dp X.K H v (pairP p)) : keyOf X.K H v = p := by
  have ex : ∃ p, Dp X.K H v (pairP p) := ⟨p, h⟩
  unfold keyOf
  rw [dif_pos ex]
  exact dp_pair_inj I (Classical.choose_spec ex) h
theorem dpAll_keys {X : Cx} {pins : List (Addr × Obj)} {σ : St} {H : Hp} {s : Shared} (I : Inv X pins σ H s) : ∀ {ws : List V} {l : Prs}, DpAll X.K H ws (l.map pairP) → ws.map (keyOf X.K H) = l
  | _, [], .nil => rfl
  | _, p :: l, .cons h1 h2 => by rw [List.map_cons, keyOf_is I h1, dpAll_keys I h2]
theorem dpAll_of_keys {K : PySem.W.Frag} {H : Hp} (f : V → Int × Int) : ∀ {ws : List V}, (∀ x ∈ ws, Dp K H x (pairP (f x))) → DpAll K H ws ((ws.map f).map pairP)
  | [], _ => .nil
  | x :: r, h => .cons (h x (List.mem_cons_self ..)) (dpAll_of_keys f fun y hy => h y (List.mem_cons_of_mem _ hy))
theorem isPair_of {X : Cx} {pins : List (Addr × Obj)} {σ : St} {H : Hp} {s : Shared} (I : Inv X pins σ H s) {a : Addr} {p : Int × Int} (h : Dp X.K H (.ref a) (pairP p)) : Srt.IsPair s.heap (.ref a) p.1 p.2 := by
  obtain ⟨b, e, h1⟩ := dp_pair h
  cases e
  obtain ⟨its, r, ⟨o, ho, hc, n, hd⟩, _⟩ := I.tuple h1
  obtain ⟨u1, u2, rfl, ri, rj⟩ := vals2 r
  obtain ⟨t1, rfl⟩ := ri
  obtain ⟨t2, rfl⟩ := rj
  exact ⟨a, o, t1, t2, n, rfl, ho, hc, hd⟩
def uSortedPD (K : PySem.W.Frag) : List V → Hp → VK → Prop := fun vs H Q => ∃ (a : Addr) (ws : List V) (l : Prs), vs = [.ref a] ∧ SqL K H a ws ∧ DpAll K H ws (l.map pairP) ∧
  ∀ (ys : List V) (l' : Prs) (p : Addr), Lex l' → l'.Perm l → DpAll K H ys (l'.map pairP) → H p = none → Q (.ref p) (upd H p (.lst ys))
theorem c_sortedPD {X : Cx} : CallR X (.builtin "sorted") (uSortedPD X.K) := by
  intro pins s σ H vs us Q I r h
  obtain ⟨a, ws, l, rfl, hs, hd, q⟩ := h
  obtain ⟨its, rv, hl, hz⟩ := I.list hs
  obtain ⟨u, rfl, ru⟩ := vals1 r
  obtain rfl : u = Value.ref a := ru
  have isr : ∀ x ∈ ws, ∃ t p, x = V.ref t ∧ Dp X.K H x (pairP p) := fun x m => by
    obtain ⟨i, hi⟩ := List.getElem?_of_mem m
    obtain ⟨p, _, h2⟩ := dpAll_map_at hd hi
    obtain ⟨t, e, _⟩ := dp_pair h2
    exact ⟨t, p, e, h2⟩
  obtain ⟨e1, e2⟩ := refs_back rv fun x m => by
    obtain ⟨t, _, e, _⟩ := isr x m
    exact ⟨t, e⟩
  refine SrtO.sorted_pairsO (k := fun u => keyOf X.K H (backV u)) hl.isList (by rw [← rv.length]; exact hz) (fun v hv => ?_) fun h' d out h1 h2 kp hd2 hn => ?_
  · obtain ⟨t, rfl⟩ := e2 v hv
    have hm : V.ref t ∈ ws := by rw [e1]; exact List.mem_map.mpr ⟨_, hv, rfl⟩
    obtain ⟨t', p, e, hp⟩ := isr _ hm
    cases e
    show Srt.IsPair s.heap (.ref t) (keyOf X.K H (.ref t)).1 (keyOf X.K H (.ref t)).2
    rw [keyOf_is I hp]
    exact isPair_of I hp
  · have h3 : ∀ u ∈ out, ∃ a, u = Value.ref a := fun u hu => e2 u (h2.perm.mem_iff.mp hu)
    obtain ⟨n, hn⟩ := hn
    have pm : (out.map backV).Perm ws := by rw [e1]; exact h2.perm.map backV
    refine ⟨.ref d, upd H d (.lst (out.map backV)), I.laid (t' := s.toks) kp hd2 ⟨?_, out, n, vals_back h3, hn⟩, rfl, q _ ((out.map backV).map (keyOf X.K H)) d ?_ ?_ (dpAll_of_keys _ fun x hx => ?_) (I.hok.fresh hd2)⟩
    · rw [pm.length_eq]
      exact hz
    · rw [List.map_map]
      exact SrtO.srtd_map h1
    · have := pm.map (keyOf X.K H)
      rw [dpAll_keys I hd] at this
      exact this
    · obtain ⟨t, p, e, hp⟩ := isr x (pm.mem_iff.mp hx)
      rw [keyOf_is I hp]
      exact hp
section
variable {K : PySem.W.Frag} {H : Hp} {Q : VK} {a : Addr}
theorem r_sortedPD {ws : List V} {l : Prs} (h : SqL K H a ws) (hd : DpAll K H ws (l.map pairP)) (q : ∀ (ys : List V) (l' : Prs) p H', Lex l' → l'.Perm l → H p = none → Same H H' → H' p = some (.lst ys) → DpAll K H' ys (l'.map pairP) → Q (.ref p) H') : uSortedPD K [.ref a] H Q :=
  ⟨a, ws, l, rfl, h, hd, fun ys l' p h1 h2 h3 h4 => q ys l' p _ h1 h2 h4 (Keep.same (Keep.new h4)) upd_same (DpAll.same (Keep.same (Keep.new h4)) _ _ h3)⟩
end
/-- sorted, no two of one time: a curve -/
theorem lex_up {l : Prs} (h : Lex l) (nd : (l.map (·.1)).Nodup) : l.Pairwise fun p q => p.1 < q.1 := by
  have h1 : l.Pairwise fun p q => SrtO.lexB q p = false := h
  have h2 : l.Pairwise fun p q => p.1 ≠ q.1 := by
    unfold List.Nodup at nd
    rwa [List.pairwise_map] at nd
  refine (List.Pairwise.and h1 h2).imp fun {p q} z => ?_
  have := SrtO.lexB_no.mp z.1
  have := z.2
  omega
/-! ### sorted(d.items()) -/
section
variable {X : Cx}
def uItems (x : V) (xs : List V) (H : Hp) (Q : VK) : Prop := ∃ (a : Addr) (kvs : List (Key × V)), x = .ref a ∧ xs = [] ∧ H a = some (.dK kvs) ∧ ∀ p, H p = none → Q (.ref p) (upd H p (L2.DX.itemsO p a))
theorem dk_raw {P : Program} {w : World} {H : Hp} {h : Heap} {a : Addr} {kvs : List (Key × V)} (ok : HOk P w H h) (e : H a = some (.dK kvs)) :
    kvs.length ≤ sizeLine ∧ (a == sysModules) = false ∧ ∃ vs, KV kvs vs ∧ ∃ es ep, DT.Raw h a es ep ∧ PySem.Pairs (mixKind P w) es.toList vs := by
  obtain ⟨z, hd, vs, rel, o, es, ep, h1, h2, h3, h4, h5, h6⟩ := dk_of ok e
  exact ⟨z, hd, vs, rel, es, ep, ⟨o, h1, h2, h3⟩, h5⟩
theorem mt_items : MtR X "dict.items" uItems := by
  intro pins s σ H x xs v us Q I rx rxs h
  obtain ⟨a, kvs, rfl, rfl, ha, q⟩ := h
  cases rx
  cases rxs
  obtain ⟨z, hd, vs, rel, es, ep, raw, _⟩ := dk_raw I.hok ha
  refine DT.callItems (es := es) (ep := ep) hd raw ?_
  have hf : H s.heap.objs.size = none := I.hok.fresh (Nat.le_refl _)
  exact ⟨.ref s.heap.objs.size, _, I.laid (t' := s.toks) (fun b u e => Heap.get?_push_of_some _ e) (Nat.le_refl _) (L2.DX.itemsO_ok (Heap.get?_push_size _ rfl)), rfl, q _ hf⟩
end

theorem pairs_at {P : Program} {w : World} : ∀ {es : List DictEntry} {vs : List (Key × Value)}, PySem.Pairs (mixKind P w) es vs → ∀ {j : Nat} {e : DictEntry}, es[j]? = some e → ∃ kv, vs[j]? = some kv ∧ keyIs kv.1 e.key = true ∧ e.val = kv.2
  | _, _, .nil, j, e, hj => by simp at hj
  | _, _, .cons h1 h2 _, 0, e, hj => by
    simp only [List.getElem?_cons_zero, Option.some.injEq] at hj
    subst hj
    exact ⟨_, rfl, h1, h2⟩
  | _, _, .cons _ _ h, j + 1, e, hj => pairs_at h (j := j) (by simpa using hj)
theorem pairs_len {P : Program} {w : World} : ∀ {es : List DictEntry} {vs : List (Key × Value)}, PySem.Pairs (mixKind P w) es vs → es.length = vs.length
  | _, _, .nil => rfl
  | _, _, .cons _ _ h => by simp [pairs_len h]
theorem paired_at {α β : Type} {F : α → β → Prop} : ∀ {l : List α} {l' : List β}, Paired F l l' → ∀ {j : Nat} {y : β}, l'[j]? = some y → ∃ x, l[j]? = some x ∧ F x y
  | _, _, .nil, j, y, h => by simp at h
  | _, _, .cons f _, 0, y, h => by
    simp only [List.getElem?_cons_zero, Option.some.injEq] at h
    subst h
    exact ⟨_, rfl, f⟩
  | _, _, .cons _ t, j + 1, y, h => paired_at t (j := j) (by simpa using h)
theorem isPair_inj {h : Heap} {v : Value} {x y x' y' : Int} (a : Srt.IsPair h v x y) (b : Srt.IsPair h v x' y') : x = x' ∧ y = y' := by
  obtain ⟨c, o, t, u, n, rfl, ho, _, hd⟩ := a
  obtain ⟨c', o', t', u', n', e, ho', _, hd'⟩ := b
  cases e
  rw [ho] at ho'
  cases ho'
  rw [hd] at hd'
  simp at hd'
  exact ⟨hd'.1.1.1, hd'.1.2.1⟩
open Classical in
noncomputable def keyAt (h : Heap) (v : Value) : Int × Int := if z : ∃ p : Int × Int, Srt.IsPair h v p.1 p.2 then choose z else (0, 0)
theorem keyAt_is {h : Heap} {v : Value} {p : Int × Int} (a : Srt.IsPair h v p.1 p.2) : keyAt h v = p := by
  have ex : ∃ p : Int × Int, Srt.IsPair h v p.1 p.2 := ⟨p, a⟩
  unfold keyAt
  rw [dif_pos ex]
  obtain ⟨z1, z2⟩ := isPair_inj (Classical.choose_spec ex) a
  exact Prod.ext z1 z2
theorem list_ext_at {α : Type} {l m : List α} (hl : l.length = m.length) (h : ∀ (j : Nat) (x y : α), l[j]? = some x → m[j]? = some y → x = y) : l = m := by
  refine List.ext_getElem hl fun j h1 h2 => h j _ _ (List.getElem?_eq_getElem h1) (List.getElem?_eq_getElem h2)
def uSortedIt : List V → Hp → VK → Prop := fun vs H Q => ∃ (p a : Addr) (m : Prs), vs = [.ref p] ∧ H p = some (L2.DX.itemsO p a) ∧ H a = some (.dK (m.map inj)) ∧ m.length ≤ 100000 ∧
  ∀ (H' : Hp) (l : Addr) (ys : List V) (l' : Prs), Lex l' → l'.Perm m → H l = none → Same H H' → H' l = some (.lst ys) → RawP H' ys l' → Q (.ref l) H'
theorem c_sortedIt {X : Cx} (hc : X.calm = true) : CallR X (.builtin "sorted") uSortedIt := by
  intro pins s σ H vs us Q I r h
  obtain ⟨p, a, m, rfl, hp, ha, hm, q⟩ := h
  obtain rfl := Vals.ref1 r
  have view : s.heap.IsItemsView p a := (show ObjOk X.prog X.w H s.heap p (L2.DX.itemsO p a) from I.hok p _ hp).1
  obtain ⟨z, hd, ws, rel, es, ep, raw, prs⟩ := dk_raw I.hok ha
  have l1 : m.length = ws.length := by have := Paired.length rel; rwa [List.length_map] at this
  have l2 : es.size = ws.length := by rw [← pairs_len prs, Array.length_toList]
  have hh : X.A.handled = none := I.ok.hd hc
  refine DT.sortedI (es := es) (ep := ep) hh view raw (by rw [sizeLine_eq]; omega) fun h' tk as hk hlt hl hG => ?_
  have lak : as.length = m.length := by omega
  have nd : as.Nodup := List.Pairwise.imp (fun h => Nat.ne_of_lt h) hG.rise
  have pr : ∀ (j : Nat) (b : Addr), as[j]? = some b → ∃ c : Int × Int, m[j]? = some c ∧ ∃ t u, h'.get? b = some { cls := .type "tuple", data := .seq #[Value.int c.1 t, Value.int c.2 u] } := by
    intro j b hj
    obtain ⟨en, he, hg⟩ := hG.pairs j b hj
    obtain ⟨kv, hkv, ek, ev⟩ := pairs_at prs (show es.toList[j]? = some en by simpa using he)
    obtain ⟨x, hx, ex, rx⟩ := paired_at rel hkv
    rw [List.getElem?_map] at hx
    obtain ⟨c, hc, rfl⟩ := Option.map_eq_some_iff.mp hx
    obtain ⟨u, eu⟩ : ∃ u, kv.2 = Value.int c.2 u := rx
    have ex : (Sum.inl c.1 : Key) = kv.1 := ex
    rcases keyIs_shape ek with ⟨i, t, e1, e2⟩ | ⟨_, _, e1, _⟩
    · rw [← ex] at e1
      cases e1
      exact ⟨c, hc, t, u, by rw [hg, e2, ev, eu]⟩
    · rw [← ex] at e1
      cases e1
  have hob : (h'.push { cls := .type "list", data := .seq (as.map Value.ref).toArray }).get? h'.objs.size = some (seqObj "list" (as.map Value.ref).toArray 0) := Heap.get?_push_size _ rfl
  have kb : ∀ b o, s.heap.get? b = some o → (h'.push { cls := .type "list", data := .seq (as.map Value.ref).toArray }).get? b = some o := fun b o e => Heap.get?_push_of_some _ (hk b o e)
  have ne0 : ∀ b o, h'.get? b = some o → b ≠ h'.objs.size := fun b o e => Nat.ne_of_lt (Heap.lt_size e)
  have ka : ∀ b o, h'.get? b = some o → (h'.push { cls := .type "list", data := .seq (as.map Value.ref).toArray }).get? b = some o := fun b o e => Heap.get?_push_of_some _ e
  generalize h'.push { cls := .type "list", data := .seq (as.map Value.ref).toArray } = h2 at hob kb ka ⊢
  have isp : ∀ (j : Nat) (b : Addr) (c : Int × Int), as[j]? = some b → m[j]? = some c → Srt.IsPair h2 (.ref b) c.1 c.2 := by
    intro j b c hj hc
    obtain ⟨c', hc', t, u, hg⟩ := pr j b hj
    rw [hc] at hc'
    cases hc'
    exact ⟨b, _, t, u, 0, rfl, ka _ _ hg, rfl, rfl⟩
  have isv : ∀ v ∈ as.map Value.ref, Srt.IsPair h2 v (keyAt h2 v).1 (keyAt h2 v).2 := by
    intro v hv
    obtain ⟨b, hb, rfl⟩ := List.mem_map.mp hv
    obtain ⟨j, hj⟩ := List.getElem?_of_mem hb
    obtain ⟨c, hc, _⟩ := pr j b hj
    have := isp j b c hj hc
    rw [keyAt_is this]
    exact this
  have keys : (as.map Value.ref).map (keyAt h2) = m := by
    refine list_ext_at (by simpa using lak) fun j x y hx hy => ?_
    rw [List.map_map, List.getElem?_map] at hx
    obtain ⟨b, hb, rfl⟩ := Option.map_eq_some_iff.mp hx
    exact keyAt_is (isp j b y hb hy)
  refine wpAny_call_entry PyProof.Rows.slot_list_sort ⟨_, hob, rfl⟩ PyProof.Rows.entry_list_sort (SrtO.list_sort_ord (s := { s with heap := h2, toks := tk }) (ltv := fun v u => SrtO.lexB (keyAt h2 v) (keyAt h2 u)) (SrtO.swo_lex _) hob (by rw [List.length_map, sizeLine_eq]; omega)
    (fun h2' => SrtO.pairs_sortableO (s := { s with heap := h2, toks := tk }) (by omega) isv fun o e => ?_) fun out o1 o2 => ⟨.none, rfl, ?_⟩) (PyProof.Rows.args_list_sort _)
  · have e' : some o = some (seqObj "list" (as.map Value.ref).toArray 0) := e.symm.trans hob
    cases e'
    intro c
    exact absurd (Value.type.inj c) (by decide)
  show EP X pins σ Q (.ref h'.objs.size) { s with heap := sortedHeap h2 h'.objs.size (as.map Value.ref) out.toArray, toks := tk }
  have pm : out.Perm (as.map Value.ref) := o2.perm
  have allr : ∀ u ∈ out, ∃ a, u = Value.ref a := fun u hu => by
    obtain ⟨b, _, rfl⟩ := List.mem_map.mp (pm.mem_iff.mp hu)
    exact ⟨b, rfl⟩
  have kF : ∀ b o, b ≠ h'.objs.size → h2.get? b = some o → (sortedHeap h2 h'.objs.size (as.map Value.ref) out.toArray).get? b = some o := fun b o hb e => (PyProof.Rows.sortedHeap_old hb (Heap.lt_size e)).trans e
  have kS : ∀ b o, s.heap.get? b = some o → (sortedHeap h2 h'.objs.size (as.map Value.ref) out.toArray).get? b = some o := fun b o e => kF b o (ne0 _ _ (hk b o e)) (kb b o e)
  obtain ⟨eF, heF⟩ := PyProof.Rows.sortedHeap_at (vs := as.map Value.ref) (out := out.toArray) hob
  have I1 : Inv X pins σ H { s with heap := sortedHeap h2 h'.objs.size (as.map Value.ref) out.toArray, toks := tk } := I.kept (t' := tk) kS
  have hn0 : H h'.objs.size = none := I.hok.fresh (Nat.le_of_lt hlt)
  have hlen : (out.map backV).length ≤ sizeLine := by
    rw [List.length_map, pm.length_eq, List.length_map, sizeLine_eq]
    omega
  have I2 : Inv X pins σ (upd H h'.objs.size (.lst (out.map backV))) { s with heap := sortedHeap h2 h'.objs.size (as.map Value.ref) out.toArray, toks := tk } :=
    I1.take (h' := sortedHeap h2 h'.objs.size (as.map Value.ref) out.toArray) (t' := tk) (fun b ob _ e => e) (I.fpOk (Nat.le_of_lt hlt) hn0) ⟨hlen, out, eF, vals_back allr, heF⟩
  obtain ⟨H2, I3, g, qt⟩ := L2.DX.takeT (P := fun b vs => vs = [.int (keyAt h2 (.ref b)).1, .int (keyAt h2 (.ref b)).2]) I as _ I2 nd fun b hb => by
    obtain ⟨j, hj⟩ := List.getElem?_of_mem hb
    obtain ⟨c, hc, t, u, hg⟩ := pr j b hj
    have e : keyAt h2 (.ref b) = c := keyAt_is (isp j b c hj hc)
    have hbl : s.heap.objs.size ≤ b := Nat.le_of_lt (hG.above b hb)
    refine ⟨hbl, ?_, _, rfl, fun H3 => ⟨(by rw [sizeLine_eq]; show 2 ≤ 16777216; omega), [Value.int c.1 t, Value.int c.2 u], ?_, ⟨_, kF _ _ (ne0 _ _ hg) (ka _ _ hg), rfl, 0, rfl⟩⟩⟩
    · rw [upd_ne (ne0 _ _ hg)]
      exact I.hok.fresh hbl
    · rw [e]
      exact .cons ⟨t, rfl⟩ (.cons ⟨u, rfl⟩ .nil)
  have gr : ∀ b o, H b = some o → H2 b = some o := fun b o e => g b o (by rw [upd_ne (ne_of_none e hn0)]; exact e)
  refine ⟨.ref h'.objs.size, H2, I3, rfl, q H2 h'.objs.size (out.map backV) (out.map (keyAt h2)) (SrtO.srtd_map o1) (by rw [← keys]; exact pm.map _) hn0 gr (g _ _ upd_same) ?_⟩
  have all : ∀ u ∈ out, ∃ b, u = Value.ref b ∧ H2 b = some (.tup [.int (keyAt h2 u).1, .int (keyAt h2 u).2]) := fun u hu => by
    obtain ⟨b, hb, rfl⟩ := List.mem_map.mp (pm.mem_iff.mp hu)
    obtain ⟨vs, rfl, h2⟩ := qt b hb
    exact ⟨b, rfl, h2⟩
  have build : ∀ l : List Value, (∀ u ∈ l, ∃ b, u = Value.ref b ∧ H2 b = some (.tup [.int (keyAt h2 u).1, .int (keyAt h2 u).2])) → RawP H2 (l.map backV) (l.map (keyAt h2)) := by
    intro l
    induction l with
    | nil => intro _; exact .nil
    | cons u r ih =>
      intro hall
      obtain ⟨b, e, hb⟩ := hall u (List.mem_cons_self ..)
      refine .cons ⟨b, by rw [e]; rfl, hb⟩ (ih fun y hy => hall y (List.mem_cons_of_mem _ hy))
  exact build out all
section
variable {K : PySem.W.Frag} {H : Hp} {Q : VK} {a : Addr} {σ : St} {te : TE} {td ty tx : TE} {R : Hp → Prop} {v x y : V}
theorem r_items {m : Prs} (hd : H a = some (.dK (m.map inj))) (q : ∀ p H', H p = none → Same H H' → H' p = some (L2.DX.itemsO p a) → Q (.ref p) H') : uItems (.ref a) [] H Q :=
  ⟨a, _, rfl, rfl, hd, fun p hp => q p _ hp (Keep.same (Keep.new hp)) upd_same⟩
theorem r_sortedIt {p : Addr} {m : Prs} (hp : H p = some (L2.DX.itemsO p a)) (hd : H a = some (.dK (m.map inj))) (hm : m.length ≤ 100000)
    (q : ∀ l H' (ys : List V) (l' : Prs), Lex l' → l'.Perm m → H l = none → Same H H' → H' l = some (.lst ys) → RawP H' ys l' → Q (.ref l) H') : uSortedIt [.ref p] H Q := ⟨p, a, m, rfl, hp, hd, hm, fun H' l ys l' h1 h2 h3 h4 h5 h6 => q l H' ys l' h1 h2 h3 h4 h5 h6⟩
theorem r_bm0d {r : V → List V → Hp → VK → Prop} {kvs : List (Key × V)} (h : H a = some (.dK kvs)) (q : r (.ref a) [] H Q) : uBM0 K "dict" r (.ref a) H Q := ⟨.inr (.inr (.inl ⟨rfl, .inl ⟨kvs, h⟩⟩)), q⟩
end
/-! ### pop, in, clear, copies, update -/
def dropP (m : Prs) (t : Int) : Prs := m.filter fun p => decide (p.1 ≠ t)
theorem drop_inj (t : Int) : ∀ m : Prs, dropK (m.map inj) (Sum.inl t) = (dropP m t).map inj
  | [] => rfl
  | p :: m => by
    have ih := drop_inj t m
    unfold dropK dropP at *
    rw [List.map_cons, List.filter_cons, List.filter_cons, ih]
    by_cases e : p.1 = t
    · simp [e, inj]
    · simp [e, inj]
theorem mem_drop {m : Prs} {t : Int} {p : Int × Int} : p ∈ dropP m t ↔ p ∈ m ∧ p.1 ≠ t := by
  unfold dropP
  rw [List.mem_filter]
  simp
theorem nd_drop {m : Prs} (t : Int) (nd : (m.map (·.1)).Nodup) : ((dropP m t).map (·.1)).Nodup := nd.sublist (List.filter_sublist.map _)
theorem len_drop (m : Prs) (t : Int) : (dropP m t).length ≤ m.length := List.length_filter_le _ _
theorem valP_none {t : Int} : ∀ {m : Prs}, valP m t = none ↔ t ∉ m.map (·.1)
  | [] => by simp [valP]
  | p :: m => by
    by_cases e : p.1 = t
    · rw [valP_pos e]
      simp [e]
    · rw [valP_neg e, valP_none (m := m)]
      simp [Ne.symm e]
theorem val_put {m : Prs} (nd : (m.map (·.1)).Nodup) (t h k : Int) : valP (putP m t h) k = if k = t then some h else valP m k := by
  by_cases e : k = t
  · rw [if_pos e, e, valP_iff (nd_put t h nd), mem_put]
    exact .inl rfl
  · rw [if_neg e]
    cases z : valP m k with
    | none =>
      rw [valP_none] at z ⊢
      rw [keys_put]
      split
      · exact z
      · rw [List.mem_append, List.mem_singleton]
        rintro (y | y)
        · exact z y
        · exact e y
    | some v =>
      rw [valP_iff nd] at z
      rw [valP_iff (nd_put t h nd), mem_put]
      exact .inr ⟨z, e⟩
theorem val_drop {m : Prs} (nd : (m.map (·.1)).Nodup) (t k : Int) : valP (dropP m t) k = if k = t then none else valP m k := by
  by_cases e : k = t
  · rw [if_pos e, e, valP_none]
    intro z
    obtain ⟨p, hp, e2⟩ := List.mem_map.mp z
    exact (mem_drop.mp hp).2 e2
  · rw [if_neg e]
    cases z : valP m k with
    | none =>
      rw [valP_none] at z ⊢
      intro y
      obtain ⟨p, hp, e2⟩ := List.mem_map.mp y
      exact z (List.mem_map.mpr ⟨p, (mem_drop.mp hp).1, e2⟩)
    | some v =>
      rw [valP_iff nd] at z
      rw [valP_iff (nd_drop t nd), mem_drop]
      exact ⟨z, e⟩
section
variable {X : Cx} {K : PySem.W.Frag} {H : Hp} {Q : VK} {a b : Addr} {σ : St} {te : TE} {td ty tx : TE} {R : Hp → Prop} {v x y : V} {o : Expr} {apos cpos : Pos}
def uPop1b (a : Addr) (y : V) (H : Hp) (Q : VK) : Prop := ∃ kvs k v, H a = some (.dK kvs) ∧ y = kV k ∧ valV kvs k = some v ∧ Q v (upd H a (.dK (dropK kvs k)))
def uPop1 (ty : TE) (σ : St) (x : V) (H : Hp) (Q : VK) : Prop := ∃ a, x = .ref a ∧ IsD H a ∧ ty σ H fun y H2 => uPop1b a y H2 Q
theorem r_dpop1 (q : td σ H fun x H1 => uPop1 ty σ x H1 Q) : tDPop1 td ty σ H Q := q
theorem r_dpop1i {kvs : List (Key × V)} (hd : H a = some (.dK kvs)) (q : ty σ H fun y H2 => uPop1b a y H2 Q) : uPop1 ty σ (.ref a) H Q := ⟨a, rfl, .inl ⟨_, .inl hd⟩, q⟩
theorem r_dpop1k {m : Prs} {t h : Int} (hd : H a = some (.dK (m.map inj))) (e : valP m t = some h) (q : ∀ H', Keep (At a) H H' → H' a = some (.dK ((dropP m t).map inj)) → Q (.int h) H') : uPop1b a (.int t) H Q :=
  ⟨_, Sum.inl t, .int h, hd, rfl, by rw [val_inj, e]; rfl, q _ Keep.at_ (by rw [upd_same, drop_inj])⟩
def uPop2b (a : Addr) (y z : V) (H : Hp) (Q : VK) : Prop := ∃ kvs k, H a = some (.dK kvs) ∧ y = kV k ∧ (∀ v, valV kvs k = some v → Q v (upd H a (.dK (dropK kvs k)))) ∧ (valV kvs k = none → Q z H)
def uPop2 (ty tx : TE) (σ : St) (x : V) (H : Hp) (Q : VK) : Prop := ∃ a, x = .ref a ∧ IsD H a ∧ ty σ H fun y H2 => tx σ H2 fun z H3 => uPop2b a y z H3 Q
theorem r_dpop2 (q : td σ H fun x H1 => uPop2 ty tx σ x H1 Q) : tDPop2 td ty tx σ H Q := q
theorem r_dpop2i {kvs : List (Key × V)} (hd : H a = some (.dK kvs)) (q : ty σ H fun y H2 => tx σ H2 fun z H3 => uPop2b a y z H3 Q) : uPop2 ty tx σ (.ref a) H Q := ⟨a, rfl, .inl ⟨_, .inl hd⟩, q⟩
theorem r_dpop2k {m : Prs} {t : Int} {z : V} (hd : H a = some (.dK (m.map inj))) (q1 : ∀ h H', valP m t = some h → Keep (At a) H H' → H' a = some (.dK ((dropP m t).map inj)) → Q (.int h) H') (q2 : valP m t = none → Q z H) : uPop2b a (.int t) z H Q := by
  refine ⟨_, Sum.inl t, hd, rfl, fun v e => ?_, fun e => q2 ?_⟩
  · rw [val_inj] at e
    obtain ⟨h, e1, rfl⟩ := Option.map_eq_some_iff.mp e
    exact q1 h _ e1 Keep.at_ (by rw [upd_same, drop_inj])
  · rw [val_inj, Option.map_eq_none_iff] at e
    exact e
/-- d.pop(k, None) of a dict by pairs of numbers -/
theorem r_popT {kvs : List (List Key × V)} {i j : Int} {z : V} (hd : H a = some (.dT kvs)) (hb : H b = some (.tup [.int i, .int j])) (q1 : ∀ v H', valV kvs [Sum.inl i, Sum.inl j] = some v → Keep (At a) H H' → H' a = some (.dT (dropK kvs [Sum.inl i, Sum.inl j])) → Q v H')
    (q2 : valV kvs [Sum.inl i, Sum.inl j] = none → Q z H) : L2.DX.rPopT (.ref a) [.ref b, z] H Q :=
  ⟨a, kvs, [Sum.inl i, Sum.inl j], b, z, rfl, rfl, hd, hb, fun v e => q1 v _ e Keep.at_ upd_same, q2⟩
theorem r_bmdT {r : V → List V → Hp → VK → Prop} {t : TA} {kvs : List (List Key × V)} (h : H a = some (.dT kvs)) (q : t σ H fun xs H2 => r (.ref a) xs H2 Q) : uBM K "dict" r t σ (.ref a) H Q := ⟨.inr (.inr (.inl ⟨rfl, .inr ⟨kvs, h⟩⟩)), q⟩
theorem r_bmdK {r : V → List V → Hp → VK → Prop} {t : TA} {kvs : List (Key × V)} (h : H a = some (.dK kvs)) (q : t σ H fun xs H2 => r (.ref a) xs H2 Q) : uBM K "dict" r t σ (.ref a) H Q := ⟨.inr (.inr (.inl ⟨rfl, .inl ⟨kvs, h⟩⟩)), q⟩
def uDIn (y x : V) (H : Hp) (Q : VK) : Prop := ∃ a o, x = .ref a ∧ DGet H a y o ∧ Q (.bl o.isSome) H
def uDNotIn (y x : V) (H : Hp) (Q : VK) : Prop := ∃ a o, x = .ref a ∧ DGet H a y o ∧ Q (.bl (!o.isSome)) H
theorem r_din (q : ty σ H fun y H1 => td σ H1 fun x H2 => uDIn y x H2 Q) : tDIn ty td σ H Q := q
theorem r_dnotin (q : ty σ H fun y H1 => td σ H1 fun x H2 => uDNotIn y x H2 Q) : tDNotIn ty td σ H Q := q
theorem dget_n {m : Prs} {t : Int} (hd : H a = some (.dK (m.map inj))) : ∃ o, DGet H a (.int t) o ∧ o.isSome = (valP m t).isSome := ⟨_, DGet.k (k := Sum.inl t) hd, by rw [val_inj]; cases valP m t <;> rfl⟩
theorem r_dini {m : Prs} {t : Int} (hd : H a = some (.dK (m.map inj))) (q : Q (.bl (valP m t).isSome) H) : uDIn (.int t) (.ref a) H Q := by
  obtain ⟨o, h1, h2⟩ := dget_n (t := t) hd
  exact ⟨a, o, rfl, h1, by rw [h2]; exact q⟩
theorem r_dnotini {m : Prs} {t : Int} (hd : H a = some (.dK (m.map inj))) (q : Q (.bl (!(valP m t).isSome)) H) : uDNotIn (.int t) (.ref a) H Q := by
  obtain ⟨o, h1, h2⟩ := dget_n (t := t) hd
  exact ⟨a, o, rfl, h1, by rw [h2]; exact q⟩
theorem r_clear {kvs : List (Key × V)} (hd : H a = some (.dK kvs)) (q : ∀ H', Keep (At a) H H' → H' a = some (.dK []) → Q .non H') : rDClear (.ref a) [] H Q := ⟨a, kvs, rfl, rfl, hd, q _ Keep.at_ upd_same⟩
/-- dict(d) -/
def uDictD : List V → Hp → VK → Prop := fun xs H Q => ∃ (a : Addr) (kvs : List (Key × V)), xs = [.ref a] ∧ Rd H a (.dK kvs) ∧ ∀ p, H p = none → Q (.ref p) (upd H p (.dK kvs))
theorem c_dictD : CallR X (.type "dict") uDictD := call_dictD
theorem r_dictD {kvs : List (Key × V)} (hd : H a = some (.dK kvs)) (q : ∀ p H', H p = none → Same H H' → H' p = some (.dK kvs) → Q (.ref p) H') : uDictD [.ref a] H Q := ⟨a, kvs, rfl, .inl hd, fun p hp => q p _ hp (Keep.same (Keep.new hp)) upd_same⟩
/-- d.get(k, x) -/
def uDG2x (a : Addr) (y z : V) (H : Hp) (Q : VK) : Prop := ∃ o, DGet H a y o ∧ Q (o.getD z) H
def uDG2o (ty tx : TE) (σ : St) (x : V) (H : Hp) (Q : VK) : Prop := ∃ a, x = .ref a ∧ IsD H a ∧ ty σ H fun y H2 => tx σ H2 fun z H3 => uDG2x a y z H3 Q
theorem r_dget2 (q : td σ H fun x H1 => uDG2o ty tx σ x H1 Q) : tDGet2 td ty tx σ H Q := q
theorem r_dget2i {kvs : List (Key × V)} (hd : H a = some (.dK kvs)) (q : ty σ H fun y H2 => tx σ H2 fun z H3 => uDG2x a y z H3 Q) : uDG2o ty tx σ (.ref a) H Q := ⟨a, rfl, .inl ⟨_, .inl hd⟩, q⟩
theorem r_dget2k {m : Prs} {t : Int} {z : V} (hd : H a = some (.dK (m.map inj))) (q : Q (((valP m t).map V.int).getD z) H) : uDG2x a (.int t) z H Q := by
  refine ⟨_, DGet.k (k := Sum.inl t) hd, ?_⟩
  rw [val_inj]
  exact q
/-- d.update(e) -/
def uUpd (x : V) (xs : List V) (H : Hp) (Q : VK) : Prop := ∃ (a b : Addr) (kvs more : List (Key × V)), x = .ref a ∧ xs = [.ref b] ∧ a ≠ b ∧ H a = some (.dK kvs) ∧ H b = some (.dK more) ∧ kvs.length + more.length ≤ 1000000 ∧ Q .non (upd H a (.dK (mergeK kvs more)))
theorem mt_update : MtR X "dict.update" uUpd := by
  intro pins s σ H x xs v us Q I rx rxs h
  obtain ⟨a, b, kvs, more, rfl, rfl, hab, ha, hb, hz, q⟩ := h
  obtain rfl : v = Value.ref a := rx
  obtain rfl := Vals.ref1 rxs
  obtain ⟨z1, d1, vs1, rel1, dd1⟩ := dk_of I.hok ha
  obtain ⟨z2, d2, vs2, rel2, dd2⟩ := dk_of I.hok hb
  refine call_meetsIn PySem.F.slot_dict_update dd1.typeIs PySem.F.entry_dict_update (PySem.F.args_dict_update_2 _ _) (meets_dict_update (mixKind X.prog X.w) a b hab d2) ⟨vs1, vs2, dd1, dd2, by rw [← rel1.length, ← rel2.length, sizeLine_eq]; omega, fun h' dd' _ hs => ?_⟩
  have he : ∃ q, h'.get? a = some q := let ⟨q, _, _, hq, _⟩ := dd'; ⟨q, hq⟩
  have hl := length_mergeK more kvs
  exact ⟨.non, _, d_write (t' := s.toks) I (by rw [ha]; exact True.intro) hs he (dk_new (by rw [sizeLine_eq]; omega) d1 (KV.merge rel2 rel1) dd'), rfl, q⟩
theorem r_update {m more : Prs} (ha : H a = some (.dK (m.map inj))) (hb : H b = some (.dK (more.map inj))) (hab : a ≠ b) (hl : m.length + more.length ≤ 1000000) (q : ∀ H', Keep (At a) H H' → H' a = some (.dK ((mergeP m more).map inj)) → Q .non H') : uUpd (.ref a) [.ref b] H Q :=
  ⟨a, b, _, _, rfl, rfl, hab, ha, hb, by simpa using hl, q _ Keep.at_ (by rw [upd_same, merge_inj])⟩
/-- len(d) -/
def uLenD : List V → Hp → VK → Prop := fun xs H Q => ∃ (a : Addr) (kvs : List (Key × V)), xs = [.ref a] ∧ Rd H a (.dK kvs) ∧ Q (.int kvs.length) H
theorem c_lenD : CallR X (.builtin "len") uLenD := by
  intro pins s σ H xs us Q I r h
  obtain ⟨a, kvs, rfl, hd, q⟩ := h
  obtain rfl := Vals.ref1 r
  exact d_len I hd fun t s' I' => ⟨.int kvs.length, H, I', ⟨t, rfl⟩, q⟩
theorem r_lenD {m : Prs} (hd : H a = some (.dK (m.map inj))) (q : Q (.int m.length) H) : uLenD [.ref a] H Q := ⟨a, _, rfl, .inl hd, by rw [List.length_map]; exact q⟩
end
/-! ### xs == [], whatever the list holds -/
section
variable {X : Cx} {K : PySem.W.Frag} {H : Hp} {Q : VK} {a b : Addr} {xs : List V}
def uEqNil (K : PySem.W.Frag) : R2 := fun x y H Q => ∃ a b xs, x = .ref a ∧ y = .ref b ∧ SqL K H a xs ∧ SqL K H b [] ∧ Q (.bl (decide (xs = []))) H
def uNeNil (K : PySem.W.Frag) : R2 := fun x y H Q => ∃ a b xs, x = .ref a ∧ y = .ref b ∧ SqL K H a xs ∧ SqL K H b [] ∧ Q (.bl (!decide (xs = []))) H
theorem o_eqNil (hu : X.A.units + 64 < cLine) : OpR X (compareOp .Eq) (uEqNil X.K) := by
  intro pins s σ H x y v u Q I rx ry h
  obtain ⟨a, b, xs, rfl, rfl, h1, h2, q⟩ := h
  obtain rfl : v = Value.ref a := rx
  obtain rfl : u = Value.ref b := ry
  obtain ⟨i1, r1, l1, z1⟩ := I.list h1
  obtain ⟨i2, r2, l2, z2⟩ := I.list h2
  cases r2
  have hl := r1.length
  cases xs with
  | nil =>
    cases r1
    exact SeqAt.eq_listAt (e := fun _ => true) l1.isList l2.isList rfl (by omega) (fun j h1 _ => by simp at h1) ⟨.bl true, H, I, rfl, q⟩
  | cons x r =>
    refine SeqAt.eq_list_lengthsAt l1.isList l2.isList ?_ (by omega) ⟨.bl false, H, I, rfl, q⟩
    rw [List.size_toArray, ← hl]
    simp
theorem o_neNil (hu : X.A.units + 64 < cLine) : OpR X (compareOp .NotEq) (uNeNil X.K) := by
  intro pins s σ H x y v u Q I rx ry h
  obtain ⟨a, b, xs, rfl, rfl, h1, h2, q⟩ := h
  obtain rfl : v = Value.ref a := rx
  obtain rfl : u = Value.ref b := ry
  obtain ⟨i1, r1, l1, z1⟩ := I.list h1
  obtain ⟨i2, r2, l2, z2⟩ := I.list h2
  cases r2
  have hl := r1.length
  cases xs with
  | nil =>
    cases r1
    exact SeqAt.RcNeAt.lists (e := fun _ => true) l1.isList l2.isList rfl (by omega) (fun j h1 _ => by simp at h1) X.prog X.w _ _ ⟨.bl false, H, I, rfl, q⟩
  | cons x r =>
    refine SeqAt.RcNeAt.lists_lengths l1.isList l2.isList ?_ (by omega) X.prog X.w _ _ ⟨.bl true, H, I, rfl, q⟩
    rw [List.size_toArray, ← hl]
    simp
theorem r_eqNil (h1 : SqL K H a xs) (h2 : SqL K H b []) (q : Q (.bl (decide (xs = []))) H) : uEqNil K (.ref a) (.ref b) H Q := ⟨a, b, xs, rfl, rfl, h1, h2, q⟩
theorem r_neNil (h1 : SqL K H a xs) (h2 : SqL K H b []) (q : Q (.bl (!decide (xs = []))) H) : uNeNil K (.ref a) (.ref b) H Q := ⟨a, b, xs, rfl, rfl, h1, h2, q⟩
end
end Fp
/-! texts of numbers, of curves -/
namespace Fp
open PySem PySem.Spec PyProof.Rows L2
open TL (tl tl_append mk_tl tl_mk numL numL_digits numL_ne numL_free numL_val numL_len numL_step numL_lt tl_num spl spl_part1 spl_last1 tl_ofString map_tl_inj split_spl kind_ok)
def numT (i : Int) : List Nat := if i < 0 then 45 :: numL i.natAbs else numL i.natAbs
def numS (i : Int) : Str := ⟨(numT i).toArray⟩
theorem tl_numS (i : Int) : tl (numS i) = numT i := tl_mk _
theorem tl_str_int (i : Int) : tl (Str.ofString (toString i)) = numT i := by
  cases i with
  | ofNat n =>
    show tl (Str.ofString (toString ((n : Nat) : Int))) = numT ((n : Nat) : Int)
    rw [tl_num]
    unfold numT
    rw [if_neg (by omega)]
    simp
  | negSucc n =>
    have h : toString (Int.negSucc n) = "-" ++ toString (((n + 1 : Nat) : Int)) := rfl
    rw [h, tl_ofString, String.toList_append, List.map_append, ← tl_ofString, ← tl_ofString, tl_num]
    unfold numT
    rw [if_pos (by omega), show tl (Str.ofString "-") = [45] by decide +kernel]
    rfl
theorem str_int (i : Int) : Str.ofString (toString i) = numS i := tl_inj (by rw [tl_str_int, tl_numS])
theorem numT_free {i : Int} {s : Nat} (h0 : s ≠ 45) (h : s < 48 ∨ 57 < s) : s ∉ numT i := by
  unfold numT
  split
  · intro z
    rcases List.mem_cons.mp z with z | z
    · exact h0 z
    · exact numL_free h z
  · exact numL_free h
theorem pow10_nat (k : Nat) : ((10 ^ k : Nat) : Int) = (10 : Int) ^ k := by exact_mod_cast rfl
theorem numT_len {i : Int} {k : Nat} (hk : 0 < k) (h : i.natAbs < 10 ^ k) : (numT i).length ≤ k + 1 := by
  have := numL_len (n := i.natAbs) hk h
  unfold numT
  split
  · simp only [List.length_cons]; omega
  · omega
theorem int_of_numS {i : Int} (h : (numT i).length ≤ 4300) : intText? (numS i) = some i := by
  unfold numS
  unfold numT at h ⊢
  by_cases z : i < 0
  · rw [if_pos z] at h ⊢
    simp only [List.length_cons] at h
    rw [PySem.intText_neg (cs := numL i.natAbs) (by rfl) (numL_digits _) (numL_ne _) (by simp [Str.length]; omega), numL_val]
    congr 1
    omega
  · rw [if_neg z] at h ⊢
    rw [PySem.intText_digits (by exact numL_digits _) (by exact numL_ne _) (by simp [Str.length]; omega)]
    show some (((NumText.digitsVal (numL i.natAbs) : Nat) : Int)) = some i
    rw [numL_val]
    congr 1
    omega
/-- a line, a text -/
def lineT (p : Int × Int) : List Nat := numT p.1 ++ 32 :: numT p.2
def lineOf (p : Int × Int) : Str := ⟨(lineT p).toArray⟩
def lineNl (p : Int × Int) : Str := ⟨(lineT p ++ [10]).toArray⟩
theorem tl_lineNl (p : Int × Int) : tl (lineNl p) = lineT p ++ [10] := tl_mk _
def textN (c : Prs) : List Nat := (c.map fun p => lineT p ++ [10]).flatten
def textS (c : Prs) : Str := ⟨(textN c).toArray⟩
theorem tl_lineOf (p : Int × Int) : tl (lineOf p) = lineT p := tl_mk _
theorem tl_textS (c : Prs) : tl (textS c) = textN c := tl_mk _
theorem lineT_free (p : Int × Int) : (10 : Nat) ∉ lineT p := by
  unfold lineT
  intro z
  rcases List.mem_append.mp z with z | z
  · exact numT_free (by decide) (by decide) z
  · rcases List.mem_cons.mp z with z | z
    · exact absurd z (by decide)
    · exact numT_free (by decide) (by decide) z
theorem spl_text : ∀ c : Prs, spl [10] 0 [] (textN c) = c.map lineT ++ [[]]
  | [] => by simp [textN, TL.spl_nil]
  | p :: c => by
    have e : textN (p :: c) = lineT p ++ ([10] ++ textN c) := by simp [textN]
    rw [e, spl_part1 (s := 10) (S := []) (lineT_free p), spl_text c]
    rfl
theorem split_text (c : Prs) : Txt.split (textS c) ("\n" : Str) = c.map lineOf ++ [("" : Str)] := by
  refine map_tl_inj ?_
  rw [split_spl _ _ (by decide +kernel) (kind_ok (by decide +kernel)), tl_textS, show tl ("\n" : Str) = [10] by decide +kernel, spl_text, List.map_append, List.map_map]
  congr 1
theorem split_line (p : Int × Int) : Txt.split (lineOf p) (" " : Str) = [numS p.1, numS p.2] := by
  refine map_tl_inj ?_
  rw [split_spl _ _ (by decide +kernel) (kind_ok (by decide +kernel)), tl_lineOf, show tl (" " : Str) = [32] by decide +kernel]
  have e : lineT p = numT p.1 ++ ([32] ++ numT p.2) := by simp [lineT]
  rw [e, spl_part1 (s := 32) (S := []) (numT_free (by decide) (by decide)), spl_last1 (numT_free (by decide) (by decide))]
  simp [tl_numS]
theorem text_snoc {c : Prs} {i : Nat} {p : Int × Int} (h : c[i]? = some p) : textN (c.take (i + 1)) = textN (c.take i) ++ (numT p.1 ++ [32] ++ numT p.2 ++ [10]) := by
  unfold textN
  rw [take_snoc h, List.map_append, List.flatten_append]
  simp [lineT]
/-- numbers of at most k digits -/
structure Bdk (k : Nat) (p : Int × Int) : Prop where
  t : p.1.natAbs < 10 ^ k
  h : p.2.natAbs < 10 ^ k
theorem lineT_len {k : Nat} {p : Int × Int} (hk : 0 < k) (h : Bdk k p) : (lineT p).length ≤ 2 * k + 3 := by
  have h1 := numT_len hk h.t
  have h2 := numT_len hk h.h
  unfold lineT
  simp only [List.length_append, List.length_cons]
  omega
theorem textN_len {k : Nat} (hk : 0 < k) : ∀ {c : Prs}, (∀ p ∈ c, Bdk k p) → (textN c).length ≤ c.length * (2 * k + 4)
  | [], _ => by simp [textN]
  | p :: c, h => by
    have h1 := lineT_len hk (h p (List.mem_cons_self ..))
    have h2 := textN_len hk fun q hq => h q (List.mem_cons_of_mem _ hq)
    have e : textN (p :: c) = lineT p ++ ([10] ++ textN c) := by simp [textN]
    rw [e]
    simp only [List.length_append, List.length_cons, List.length_nil, Nat.add_mul, Nat.one_mul]
    omega
theorem bdk_of {p : Int × Int} (h : Bd p) : Bdk 61 p := by
  have e : (10 : Nat) ^ 61 = 10000000000000000000000000000000000000000000000000000000000000 := by decide
  have h1 := h.t
  have h2 := h.h
  unfold big at h1 h2
  exact ⟨by rw [e]; omega, by rw [e]; omega⟩
/-! ### rules of texts -/
section
variable {X : Cx} {K : PySem.W.Frag} {σ : St} {H H' : Hp} {Q : VK} {te : TE}
theorem r_str {i : Int} (h : i.natAbs < 2 ^ 1920) (q : Q (.str (numS i)) H) : uStr [.int i] H Q := by
  refine ⟨i, rfl, ?_, by rw [show ((toString i : String) : Str) = numS i from str_int i]; exact q⟩
  by_cases z : i.natAbs = 0
  · rw [z]; decide
  · exact (Nat.log2_lt z).mpr h
def uSplit : V → List V → Hp → VK → Prop := fun x xs H Q => ∃ a b, x = .str a ∧ xs = [.str b] ∧ (b.length == 0) = false ∧ a.length + 2 ≤ sizeLine ∧ rNewStrs (Txt.split a b) H Q
theorem pe_splitU {o e : Expr} {to te : TE} {apos pos : Pos} (ho : PE X o to) (he : PE X e te) (hs : starEach [e] X.env = [(false, eval e X.env)] := by rfl) (hbase : attributeBase o "split" X.env (eval o X.env) = eval o X.env := by rfl) (hline : (apos.endLine == pos.line) = true := by rfl) :
    PE X (.Call (.Attribute o "split" apos) [e] [] pos) (tM1 uSplit to te) := pe_split ho he hs hbase hline
theorem r_split {a b : Str} (hb : (b.length == 0) = false) (ha : a.length + 2 ≤ sizeLine) (q : ∀ p H', H p = none → Same H H' → H' p = some (.lst ((Txt.split a b).map V.str)) → Q (.ref p) H') : uSplit (.str a) [.str b] H Q :=
  ⟨a, b, rfl, rfl, hb, ha, fun p hp => q p _ hp (Keep.same (Keep.new hp)) upd_same⟩
def uRep01 : R2 := fun x y H Q => ∃ (z : Str) (k : Int), x = .str z ∧ y = .int k ∧ ((k = 0 ∧ Q (.str Str.empty) H) ∨ (k = 1 ∧ Q (.str z) H))
theorem o_rep01 : OpR X (binaryOp .Mult) uRep01 := by
  intro pins s σ H x y v u Q I rx ry h
  obtain ⟨z, k, rfl, rfl, hq⟩ := h
  obtain ⟨t, rfl⟩ := rx
  obtain ⟨t', rfl⟩ := ry
  rcases hq with ⟨rfl, q⟩ | ⟨rfl, q⟩
  · exact PySem.P.mul_str_none (by decide) (by decide) ⟨.str Str.empty, H, I.tok _, ⟨_, rfl⟩, q⟩
  · refine PySem.P.mul_str (by decide) (fun _ w => by simp at w) (fun _ w => by simp at w) ?_
    rw [if_neg (by decide), if_pos (by simp)]
    exact ⟨.str z, H, I, ⟨_, rfl⟩, q⟩
theorem r_rep0 {z : Str} {k : Int} (e : k = 0) (q : Q (.str ("" : Str)) H) : uRep01 (.str z) (.int k) H Q := ⟨z, k, rfl, rfl, .inl ⟨e, q⟩⟩
theorem r_rep1 {z : Str} {k : Int} (e : k = 1) (q : Q (.str z) H) : uRep01 (.str z) (.int k) H Q := ⟨z, k, rfl, rfl, .inr ⟨e, q⟩⟩
def uInS : R2 := fun x y H Q => ∃ (c : Nat) (z : Str), x = .str ⟨#[c]⟩ ∧ y = .str z ∧ Q (.bl (decide (c ∈ z.cps.toList))) H
theorem o_inS : OpR X (compareOp .In) uInS := op_in_sign
theorem r_inS {c : Nat} {z : Str} (q : Q (.bl (decide (c ∈ tl z))) H) : uInS (.str ⟨#[c]⟩) (.str z) H Q := ⟨c, z, rfl, rfl, q⟩
def uIntS : List V → Hp → VK → Prop := fun xs H Q => ∃ a n, xs = [.str a] ∧ PySem.intText? a = some n ∧ a.length ≤ 640 ∧ Q (.int n) H
theorem c_intS : CallR X (.type "int") uIntS := call_int_str
theorem r_intS {i : Int} (h : (numT i).length ≤ 640) (q : Q (.int i) H) : uIntS [.str (numS i)] H Q := ⟨numS i, i, rfl, int_of_numS (by omega), by rw [len_tl, tl_numS]; exact h, q⟩
def uSlS : V → Option Int → Option Int → Hp → VK → Prop := fun x lo hi H Q => ∃ z, x = .str z ∧ z.length ≤ sizeLine ∧ Q (.str (cutS z lo hi)) H
theorem o_slS : SlR X uSlS := sl_str
theorem r_slS {z : Str} {lo hi : Option Int} (h : z.length ≤ sizeLine) (q : Q (.str (cutS z lo hi)) H) : uSlS (.str z) lo hi H Q := ⟨z, rfl, h, q⟩
theorem cutS_head {c : Nat} {l : List Nat} : cutS (⟨(c :: l).toArray⟩ : Str) none (some 1) = ⟨#[c]⟩ := by
  apply tl_inj
  unfold cutS
  simp [HT.sIx, Str.length, tl]
theorem cutS_tail {c : Nat} {l : List Nat} : cutS (⟨(c :: l).toArray⟩ : Str) (some 1) none = ⟨l.toArray⟩ := by
  apply tl_inj
  unfold cutS
  simp [HT.sIx, Str.length, tl]
def uStrW (v : V) (H : Hp) (R : It → Hp → Prop) : Prop := ∃ x, v = .str x ∧ R (Its x) H
def iStrU (te : TE) : TI := fun σ H R => te σ H fun v H1 => uStrW v H1 R
theorem pi_strU {tg e : Expr} (he : PE X e te) : PI X tg e (iStrU te) := pi_str he
theorem r_istrU {R : It → Hp → Prop} (q : te σ H fun v H1 => uStrW v H1 R) : iStrU te σ H R := q
theorem r_strW {x : Str} {R : It → Hp → Prop} (q : R (Its x) H) : uStrW (.str x) H R := ⟨x, rfl, q⟩
theorem wk_str {x : Str} : Wk (Its x) (tl x).length (fun _ => True) (fun i H v H' => H' = H ∧ ∃ c, (tl x)[i]? = some c ∧ v = .str ⟨#[c]⟩) where
  go := fun i H _ hi => by show i < x.cps.size; simpa [tl] using hi
  stop := fun i H _ hi => by show x.cps.size ≤ i; simpa [tl] using hi
  yld := fun i H v H' _ y => by
    obtain ⟨e, c, h1, h2⟩ := y
    exact ⟨e, c, by simpa [tl] using h1, h2⟩
end
end Fp
/-! try, and what a suite asks of the error that it caught -/
namespace Fp
open PySem PySem.Spec PyProof.Rows L2
section
variable {X : Cx} {K : PySem.W.Frag} {σ : L2.St} {H H' : Hp} {Q : VK} {k j : Nat} {ps : List Str} {sp : Sp} {E : L2.St → XK} {x m n : Str} {p np pos pos' apos : Pos} {o e : Expr} {es : List Expr} {ta : TE} {t : TA} {C a : Addr} {c : Value} {i : Nat} {body suite : List Stmt} {b₀ : Stmt} {tb : WX → TS} {ts : Addr → Value → Option Addr → TS} {Wout : WX} {cls : Value} {d : Option Addr} {D : Ends}
/-- o.m(..) whose exceptions are wished for at the slots -/
def tMethUS (C : Addr) (m : Str) (sp : Sp) (E : L2.St → XK) (ta : TE) (t : TA) : TE := fun σ H Q => ta σ H fun x H1 => uMeth C m sp (E σ) t σ x H1 Q
theorem pe_methS {pl : Sem Bool} (G : MFn X.prog X.w X.K X.mg X.base k C m ps sp) (hr : Room j X.A) (c : Cls X.K C) (hx : ∀ σ, PassesAt (L2.CX X.prog X.w) X σ (E σ)) (he : PE X o ta) (ha : PA X (e :: es) t) (hk : k ≤ j := by decide)
    (hst : starEach (e :: es) X.env = (false, eval e X.env) :: starEach es X.env := by rfl) (hpl : (backTo pos (starEach es X.env)).any (·.1) = false := by rfl)
    (ht : eval (.Call (.Attribute o m apos) (e :: es) [] pos) X.env = (do
      let ov ← eval o X.env
      standAt apos.atName
      let (f, first) ← holding [ov] (getMethod ov m pl)
      callWith pos f first (backTo pos (starEach (e :: es) X.env)) (backToKw pos (keywordEach [] X.env))) := by rfl) :
    PE X (.Call (.Attribute o m apos) (e :: es) [] pos) (tMethUS C m sp E ta t) := by
  obtain ⟨f, fd, hm, hb, F⟩ := G.ex
  refine ⟨fun pins s σ H Q I h => ?_⟩
  refine PySem.W.methodCall_KW (pl := pl) (thn (he.run pins s σ H _ I h) fun u s1 ⟨x, H1, I1, rx, a, dx, fs, ex, ea, l, q⟩ => ?_) ht
  subst ex
  obtain rfl : u = Value.ref a := rx
  refine getmeth_ok I1 ea c hm l ?_
  refine PySem.W.callWith_K (first := [.ref a]) (h₀ := X.base) I.ok.mod.kin hm.kp (thn (ha.run pos pins s1 σ H1 _ I1 q) fun us s2 ⟨vs, H2, I2, r, q2⟩ => ⟨I2.kIn, ?_⟩) hst hpl
  exact run_fnS (us := .ref a :: us) (vs := .ref a :: vs) (F.mono hk) hr hb (hx σ) I2 (.cons rfl r) q2
theorem r_methS (q : ta σ H fun x H1 => uMeth C m sp (E σ) t σ x H1 Q) : tMethUS C m sp E ta t σ H Q := q
/-- try: .. except c as n: .. -/
def tTryAs (K : PySem.W.Frag) (c : Value) (i : Nat) (ts : Addr → Value → Option Addr → TS) (tb : WX → TS) : TS := fun D σ H => tb (wAs K c i ts (fun _ _ _ _ => False) D) D σ H
theorem ps_tryAs (hK : X.K = K) (hs : X.stack = X.env :: X.outer) (hf : X.env.frame = some X.env.locals) (hN : X.N.Nodup) (hi : X.N[i]? = some n) (hln : X.env.kindOf n = some .local) (hc : Names X x c)
    (hb : ∀ (W : WX) (pn : List (Addr × Obj)) (xe : Value → Shared → Prop), Takes (X.tr pn xe) W → PSs (X.tr pn xe) body (tb W))
    (hsu : ∀ (a : Addr) (oe : Obj) (cls : Value) (d : Option Addr) (pn : List (Addr × Obj)), Zc cls d oe → (∃ vs, oe.data = .fields vs) → PSs (X.suite a ((a, oe) :: pn)) (b₀ :: suite) (ts a cls d)) :
    PS X (.Try body [.ExceptHandler (some (.Name x np)) (some n) (b₀ :: suite) pos'] [] [] pos) (tTryAs K c i ts tb) := by
  subst hK
  exact L2.ps_try_as hs hf hN hi hln hc takes0 (fun W pn xe tk _ => hb W pn xe tk) hsu
theorem r_tryAs (q : tb (wAs K c i ts (fun _ _ _ _ => False) D) D σ H) : tTryAs K c i ts tb D σ H := q
theorem r_wAs {R : Addr} (e : PySem.W.exmOne K (.ref R) c = some true) (q : ∀ a, H a = none → ts a (.ref R) none { nx := fun σ' H' => D.nx (σ'.set i none) H', rt := D.rt, bk := fun σ' H' => D.bk (σ'.set i none) H', ct := fun σ' H' => D.ct (σ'.set i none) H' } (σ.set i (some (.ref a))) H) :
    WE (wAs K c i ts Wout D) σ (.ref R) none H := ⟨true, e, fun _ => q, fun z => by cases z⟩
/-- try: .. except c: .. -/
def tTryOnly (K : PySem.W.Frag) (c : Value) (ts : Addr → Value → Option Addr → TS) (tb : WX → TS) : TS := fun D σ H => tb (wOnly K c ts (fun _ _ _ _ => False) D) D σ H
theorem ps_tryOnly (hK : X.K = K) (hs : X.stack = X.env :: X.outer) (hf : X.env.frame = some X.env.locals) (hc : Names X x c)
    (hb : ∀ (W : WX) (pn : List (Addr × Obj)) (xe : Value → Shared → Prop), Takes (X.tr pn xe) W → PSs (X.tr pn xe) body (tb W))
    (hsu : ∀ (a : Addr) (oe : Obj) (cls : Value) (d : Option Addr) (pn : List (Addr × Obj)), Zc cls d oe → (∃ vs, oe.data = .fields vs) → PSs (X.suite a ((a, oe) :: pn)) (b₀ :: suite) (ts a cls d)) :
    PS X (.Try body [.ExceptHandler (some (.Name x np)) none (b₀ :: suite) pos'] [] [] pos) (tTryOnly K c ts tb) := by
  subst hK
  exact L2.ps_try_only hs hf hc takes0 (fun W pn xe tk _ => hb W pn xe tk) hsu
theorem r_tryOnly (q : tb (wOnly K c ts (fun _ _ _ _ => False) D) D σ H) : tTryOnly K c ts tb D σ H := q
theorem r_wOnly {R : Addr} (e : PySem.W.exmOne K (.ref R) c = some true) (q : ∀ a, H a = none → ts a (.ref R) none D σ H) :
    WE (wOnly K c ts Wout D) σ (.ref R) none H := ⟨true, e, fun _ => q, fun z => by cases z⟩
/-- isinstance(e, c), e the error that the suite holds at a -/
def uIsE (K : PySem.W.Frag) (cls : Value) (d : Option Addr) (a : Addr) : List V → Hp → VK → Prop := fun xs H Q => ∃ D, cls = .ref D ∧ d = none ∧ ExcC K D ∧ rIsE K D a xs H Q
theorem c_isE {oe : Obj} {pn : List (Addr × Obj)} (hz : Zc cls d oe) (hf : ∃ vs, oe.data = .fields vs) : CallR (X.suite a ((a, oe) :: pn)) (.builtin "isinstance") (uIsE X.K cls d a) := by
  intro pins s σ H xs us Q I r h
  obtain ⟨D, rfl, rfl, Cc, h⟩ := h
  exact L2.call_isE Cc hz hf pins s σ H xs us Q I r h
theorem c_isEK (K : PySem.W.Frag) {oe : Obj} {pn : List (Addr × Obj)} (hz : Zc cls d oe) (hf : ∃ vs, oe.data = .fields vs) (hK : X.K = K := by rfl) : CallR (X.suite a ((a, oe) :: pn)) (.builtin "isinstance") (uIsE K cls d a) := by
  subst hK
  exact c_isE hz hf
theorem r_isE {R T : Addr} {b : Bool} (Cc : ExcC K R) (e : PySem.W.kitOne K (.ref R) (.ref T) = some b) (q : Q (.bl b) H) : uIsE K (.ref R) none a [.ref a, .ref T] H Q :=
  ⟨R, rfl, rfl, Cc, .ref T, .ref T, b, rfl, fun _ r => r, e, q⟩
end
/-! ### of classes -/
theorem kit_true {K : PySem.W.Frag} {R T : Addr} (hd : PySem.W.hasDictIn K T = true) (ht : PySem.W.typeIn K (.ref T) = some (.type "type")) (h : PySem.W.subIn K (.ref R) (.ref T) = some true) : PySem.W.kitOne K (.ref R) (.ref T) = some true := by
  obtain ⟨cd, hc, _⟩ := PySem.W.any_some hd
  have e2 : ((PySem.W.clsIn K T).isSome && PySem.W.typeIn K (.ref T) == some (.type "type")) = true := by rw [hc, ht] <;> rfl
  unfold PySem.W.kitOne
  split
  · rfl
  · show (if ((PySem.W.clsIn K T).isSome && PySem.W.typeIn K (.ref T) == some (.type "type")) = true then PySem.W.subIn K (.ref R) (.ref T) else none) = some true
    rw [if_pos e2]
    exact h
theorem kit_false {K : PySem.W.Frag} {R T : Addr} (hd : PySem.W.hasDictIn K T = true) (ht : PySem.W.typeIn K (.ref T) = some (.type "type")) (hs : PySem.W.subIn K (.ref R) (.ref R) = some true) (h : PySem.W.subIn K (.ref R) (.ref T) = some false) : PySem.W.kitOne K (.ref R) (.ref T) = some false := by
  obtain ⟨cd, hc, _⟩ := PySem.W.any_some hd
  have e2 : ((PySem.W.clsIn K T).isSome && PySem.W.typeIn K (.ref T) == some (.type "type")) = true := by rw [hc, ht] <;> rfl
  have ne : ¬ ((Value.ref R == Value.ref T) = true) := fun z => by
    have e : R = T := Value.ref.inj (beq_iff_eq.mp z)
    subst e
    rw [hs] at h
    cases h
  unfold PySem.W.kitOne
  rw [if_neg ne]
  show (if ((PySem.W.clsIn K T).isSome && PySem.W.typeIn K (.ref T) == some (.type "type")) = true then PySem.W.subIn K (.ref R) (.ref T) else none) = some false
  rw [if_pos e2]
  exact h
/-! ### sorted(d), d by numbers, any number of them -/
def uSortedDW : List V → Hp → VK → Prop := fun xs H Q => ∃ (a : Addr) (kvs : List (Key × V)) (ks : List Int), xs = [.ref a] ∧ Rd H a (.dK kvs) ∧ kvs.map (·.1) = ks.map Sum.inl ∧ ks.length ≤ 100000 ∧
    ∀ (ys : List Int) (p : Addr), ys.Perm ks → ys.Pairwise (· ≤ ·) → H p = none → Q (.ref p) (upd H p (.lst (ys.map V.int)))
theorem c_sortedDW {X : Cx} (hcalm : X.calm = true) : CallR X (.builtin "sorted") uSortedDW := by
  intro pins s σ H xs us Q I r q
  obtain ⟨a, kvs, ks, ex, hd, hks, h64, q⟩ := q
  subst ex
  obtain ⟨u, eu, rx⟩ := vals1 r
  subst eu
  cases rx
  obtain ⟨z, lo, vs, rel, dd⟩ := dk_rd I.hok hd
  obtain ⟨ep, hat⟩ := dd.dictAt
  have hkeys : vs.map (·.1) = ks.map Sum.inl := rel.keys.symm.trans hks
  have hl : vs.length = ks.length := by
    have e := congrArg List.length hkeys
    rw [List.length_map, List.length_map] at e
    exact e
  have h16 : vs.length ≤ sizeLine := by rw [hl, sizeLine_eq]; omega
  refine Calls.call_function_entry PyProof.Rows.kind_sorted PyProof.Rows.plain_sorted PyProof.Rows.entry_sorted (PyProof.Rows.args_sorted1 _) ?_
  unfold Builtin.«sorted»
  refine wpAny_bind (m := checkCount "sorted" 1 1 _) (wpAny_pure ?_)
  refine wpAny_bind (PySem.W.kdu_collect (A := X.A.in1) (PySem.W.kdl_dict (knd := mixKind X.prog X.w) (kvs := vs) (ep := ep) lo) (I.ok.hd hcalm) hat h16 fun h' tk acc hk hacc => ?_)
  have hal : acc.toList.length = ks.length := by rw [Array.length_toList, hacc.1, hl]
  have hS : IntsAre acc.toList ks := ints_each hal fun j v e => by
    obtain ⟨k, x, e1, e2⟩ := hacc.2 j v (by rw [← Array.getElem?_toList]; exact e)
    have e3 : (vs.map (·.1))[j]? = some k := by rw [List.getElem?_map, e1]; rfl
    rw [hkeys, List.getElem?_map] at e3
    cases e4 : ks[j]? with
    | none => rw [e4] at e3; cases e3
    | some y =>
      rw [e4] at e3
      have e5 : Sum.inl y = k := Option.some.inj e3
      subst e5
      rcases keyIs_shape (show keyIs (Sum.inl y) v = true from e2) with ⟨i, t, ek, ev⟩ | ⟨z, t, ek, ev⟩
      · cases ek
        exact ⟨y, t, rfl, ev⟩
      · cases ek
  have I1 : Inv X pins σ H { s with heap := h', toks := tk } := I.kept hk
  have hz : acc.toList.length ≤ sizeLine := by rw [hal, sizeLine_eq]; omega
  refine wpAny_bind (wpAny_newList ?_ hz)
  have hoL : (h'.push (seqObj "list" acc.toList.toArray 0)).get? h'.objs.size = some (seqObj "list" acc.toList.toArray 0) := Heap.get?_push_size _ rfl
  show wpAny _ _ _ _ _ { s with heap := h'.push (seqObj "list" acc.toList.toArray 0), toks := tk }
  refine wpAny_bind (wpAny_holding (wpAny_call_entry PyProof.Rows.slot_list_sort ⟨_, hoL, rfl⟩ PyProof.Rows.entry_list_sort
    (SrtO.list_sort_ord (s := { s with heap := h'.push (seqObj "list" acc.toList.toArray 0), toks := tk }) SrtO.swo_int hoL hz (fun h2 => SrtO.ints_sortable hS h2) fun out o1 o2 => ⟨_, rfl, ?_⟩) (PyProof.Rows.args_list_sort _)))
  obtain ⟨k1, k2, k3⟩ := SrtO.ints_out hS o1 o2
  obtain ⟨e', he'⟩ := PyProof.Rows.sortedHeap_at (vs := acc.toList) (out := out.toArray) hoL
  have hlen : ((out.map SrtO.iv).map V.int).length ≤ sizeLine := by
    rw [List.length_map, k2.length_eq, sizeLine_eq]
    omega
  refine wpAny_pure ⟨_, rfl, .ref h'.objs.size, upd H h'.objs.size (.lst ((out.map SrtO.iv).map V.int)), I1.laid (t' := tk) (fun b u e => ?_) (Nat.le_refl _)
    (show ObjOk X.prog X.w _ _ _ (.lst ((out.map SrtO.iv).map V.int)) from ⟨hlen, out, e', vals_of_ints k1, he'⟩), rfl, q _ _ k2 k3 (I1.hok.fresh (Nat.le_refl _))⟩
  have hb : b < h'.objs.size := Heap.lt_size e
  rw [PyProof.Rows.sortedHeap_old (Nat.ne_of_lt hb) (by rw [size_push']; exact Nat.lt_succ_of_lt hb)]
  exact Heap.get?_push_of_some _ e
theorem r_sortedDW {H : Hp} {Q : VK} {a : Addr} {m : Prs} (hd : H a = some (.dK (m.map inj))) (hl : m.length ≤ 100000) (q : ∀ (ys : List Int) p H', ys.Perm (m.map (·.1)) → ys.Pairwise (· ≤ ·) → H p = none → Same H H' → H' p = some (.lst (ys.map V.int)) → Q (.ref p) H') : uSortedDW [.ref a] H Q :=
  ⟨a, m.map inj, m.map (·.1), rfl, .inl hd, by rw [List.map_map, List.map_map]; rfl, by simpa using hl, fun ys p h1 h2 h3 => q ys p _ h1 h2 h3 (Keep.same (Keep.new h3)) upd_same⟩
/-! ### d == {} -/
section
variable {X : Cx} {H : Hp} {Q : VK} {a b : Addr}
def uEqNoD : R2 := fun x y H Q => ∃ (a b : Addr) (kvs : List (Key × V)), x = .ref a ∧ y = .ref b ∧ H a = some (.dK kvs) ∧ H b = some (.dK []) ∧ Q (.bl (decide (kvs = []))) H
theorem o_eqNoD (hu : X.A.units + 64 < cLine) : OpR X (compareOp .Eq) uEqNoD := by
  intro pins s σ H x y v u Q I rx ry h
  obtain ⟨a, b, kvs, rfl, rfl, ha, hb, q⟩ := h
  obtain rfl : v = Value.ref a := rx
  obtain rfl : u = Value.ref b := ry
  obtain ⟨_, ya, va, ra, da⟩ := (show ObjOk X.prog X.w H s.heap a (.dK kvs) from I.hok a _ ha)
  obtain ⟨_, yb, vb, rb, db⟩ := (show ObjOk X.prog X.w H s.heap b (.dK []) from I.hok b _ hb)
  cases rb
  cases kvs with
  | nil =>
    cases ra
    exact PySem.W.rcP_dicts (knd := mixKind X.prog X.w) (r := true) ya yb da db (by omega) (fun _ => .nil) _ _ ⟨.bl true, H, I, rfl, q⟩
  | cons x r =>
    have hl := ra.length
    refine PySem.W.rcP_dicts (knd := mixKind X.prog X.w) (r := true) ya yb da db (by omega) (fun z => ?_) _ _ ⟨.bl false, H, I, ?_, q⟩
    · rw [← hl] at z
      simp at z
    · rw [← hl]
      rfl
theorem r_eqNoD {m : Prs} (ha : H a = some (.dK (m.map inj))) (hb : H b = some (.dK [])) (q : Q (.bl (decide (m = []))) H) : uEqNoD (.ref a) (.ref b) H Q := by
  refine ⟨a, b, _, rfl, rfl, ha, hb, ?_⟩
  have e : decide (m.map inj = []) = decide (m = []) := by cases m <;> rfl
  rw [e]
  exact q
end
/-! ### a comprehension, one object p being changed in each turn, the turns counted -/
section
variable {K : PySem.W.Frag} {σ : L2.St} {H H' : Hp} {Q : VK} {te : TE} {tt : TT} {g : TG} {vs : List Nat} {J : It} {src : Hp → Prop} {item : Nat → Hp → V → Hp → Prop} {a : Addr}
theorem lc_genKi {α : Type} {p : Addr} (I : Nat → Hp → Prop) (h0 : I 0 H) (hne : ∀ D, H D = none → D ≠ p) (hU : ∀ i H1 D ys, H D = none → I i H1 → (H1 D = none ∨ ∃ l, H1 D = some (.lst l)) → I i (upd H1 D (.lst ys))) (hT : ∀ i H1 H2, I i H1 → Keep (At p) H1 H2 → TExt H1 H2)
    (as : List α) (It1 : α → V → Hp → Prop) (w : Wk J as.length src item) (hit : ∀ i H x H', i < as.length → item i H x H' → ∃ c, as[i]? = some c ∧ H' = H ∧ It1 c x H') (hsrc : ∀ H', Keep (At p) H H' → (∃ i, I i H') → src H')
    (hn : as.length ≤ 16777216) (R : Hp → α → V → Prop) (hR : ∀ H H' c y, TExt H H' → R H c y → R H' c y)
    (hs : ∀ j c x H2 (S : VK) (N : Hp → Prop), as[j]? = some c → Keep (At p) H H2 → I j H2 → It1 c x H2 → (∀ y H3, Keep (At p) H2 H3 → I (j + 1) H3 → R H3 c y → S y H3) →
      g x (wipe σ vs) H2 fun σ2 H3 => wipe σ2 vs = wipe σ vs ∧ tYes σ2 H3 fun b H4 => if b = true then te σ2 H4 S else N H4)
    (q : ∀ D H' ys, H D = none → Keep (At p) H H' → I as.length H' → H' D = some (.lst ys) → Paired (R H') as ys → Q (.ref D) H') : LcW J g tYes te vs σ H Q := by
  refine lc_wk w (fun D i H' => H D = none ∧ Keep (At p) H H' ∧ I i H' ∧ ∃ ys, H' D = some (.lst ys) ∧ Paired (R H') (as.take i) ys) (fun D hD => ⟨hD, fun b o e _ => by rw [upd_ne (ne_of_none e hD)]; exact e, hU _ _ _ _ hD h0 (.inl hD), [], by simp [upd_same], by simpa using Paired.nil⟩)
    (fun D i H' _ p => hsrc H' p.2.1 ⟨_, p.2.2.1⟩) ?_ (fun D H' hD p => by obtain ⟨p1, p2, p3, ys, p4, p5⟩ := p; rw [List.take_length] at p5; exact q D H' ys hD p2 p3 p4 p5)
  rintro D i x H2 H' hD hi ⟨p1, p2, p3, ys, p4, p5⟩ hx
  obtain ⟨c, hc, rfl, hI⟩ := hit i H2 x H' hi hx
  refine hs i c x H' _ _ hc p2 p3 hI (fun y H3 k3 i3 r3 => ⟨ys, k3 _ _ p4 (hne D hD), by rw [sizeLine_eq, ← p5.length, List.length_take]; omega, hD, ?_, hU _ _ _ _ hD i3 (.inr ⟨ys, k3 _ _ p4 (hne D hD)⟩), ys ++ [y], upd_same, ?_⟩)
  · exact (p2.trans k3).free hD
  · have e3 := k3 _ _ p4 (hne D hD)
    have t3 := hT _ _ _ p3 k3
    have t4 : TExt H3 (upd H3 D (.lst (ys ++ [y]))) := TExt.lst Keep.at_ e3
    rw [take_snoc hc]
    exact (Paired.mapP p5 fun u z r => hR _ _ _ _ (t3.trans t4) r).snoc (hR _ _ _ _ t4 r3)
end
/-! ### isinstance of the caught error: a built-in class, a tuple of classes -/
section
variable {X : Cx} {K : PySem.W.Frag} {H : Hp} {Q : VK} {a : Addr} {cls : Value} {d : Option Addr}
/-- isinstance(e, T), T a built-in class -/
theorem r_isET {R : Addr} {T : String} {b : Bool} (Cc : ExcC K R) (e : PySem.W.kitOne K (.ref R) (.type T) = some b) (q : Q (.bl b) H) : uIsE K (.ref R) none a [.ref a, .ty T] H Q :=
  ⟨R, rfl, rfl, Cc, .ty T, .type T, b, rfl, fun _ r => r, e, q⟩
/-- isinstance(e, (c1, c2, ..)) -/
def uIsEA (K : PySem.W.Frag) (cls : Value) (d : Option Addr) (a : Addr) : List V → Hp → VK → Prop := fun xs H Q => ∃ (D tp : Addr) (cs : List V) (us : List Value) (b : Bool), cls = .ref D ∧ d = none ∧ ExcC K D ∧ xs = [.ref a, .ref tp] ∧ H tp = some (.tup cs) ∧ Paired ClsV cs us ∧ PySem.W.kitAny K (.ref D) us = some b ∧ Q (.bl b) H
theorem c_isEA {oe : Obj} {pn : List (Addr × Obj)} (hz : Zc cls d oe) (hf : ∃ vs, oe.data = .fields vs) : CallR (X.suite a ((a, oe) :: pn)) (.builtin "isinstance") (uIsEA X.K cls d a) := by
  intro pins s σ H xs us Q I r h
  obtain ⟨D, tp, cs, ws, b, rfl, rfl, C, rfl, hT, k, e, q⟩ := h
  obtain ⟨u1, u2, rfl, r1, r2⟩ := vals2 r
  cases (show u1 = Value.ref a from r1)
  cases (show u2 = Value.ref tp from r2)
  obtain ⟨hget, _⟩ := I.pin (a, oe) (List.mem_append.mpr (.inl List.mem_cons_self))
  obtain ⟨vs, hv⟩ := hf
  have J : PySem.W.InstAt s.heap a oe D none := by
    obtain ⟨oc, od, oda, osl⟩ := oe
    obtain ⟨h1, h2⟩ := hz
    dsimp only at h1 h2 hv
    subst h1 h2 hv
    exact ⟨hget, rfl, rfl, trivial⟩
  obtain ⟨_, its, rv, o, h1, h2, n, h3⟩ := (show ObjOk X.prog X.w H s.heap tp (.tup cs) from I.hok tp _ hT)
  have e3 := ClsV.all k rv
  subst e3
  obtain ⟨oc, od, dt, sl⟩ := o
  simp only at h2 h3
  subst h2 h3
  exact PySem.W.kia_tup (PySem.W.handS_kitx_exc C.hg C.hk C.hs C.hd C.ha C.hn C.ht C.hm) I.kIn J h1 e (fun z => nomatch z) fun tk => ⟨.bl b, H, I.kept (t' := tk) fun _ _ z => z, rfl, q⟩
theorem c_isEAK (K : PySem.W.Frag) {oe : Obj} {pn : List (Addr × Obj)} (hz : Zc cls d oe) (hf : ∃ vs, oe.data = .fields vs) (hK : X.K = K := by rfl) : CallR (X.suite a ((a, oe) :: pn)) (.builtin "isinstance") (uIsEA K cls d a) := by
  subst hK
  exact c_isEA hz hf
/-- of classes none of which the error is of -/
inductive NoneOf (K : PySem.W.Frag) (R : Addr) : List Addr → Prop where
  | nil : NoneOf K R []
  | cons {T : Addr} {Ts : List Addr} : PySem.W.kitOne K (.ref R) (.ref T) = some false → NoneOf K R Ts → NoneOf K R (T :: Ts)
theorem NoneOf.any {R : Addr} : ∀ {Ts : List Addr}, NoneOf K R Ts → PySem.W.kitAny K (.ref R) (Ts.map Value.ref) = some false
  | _, .nil => rfl
  | _, .cons h t => kitAny_cons h (fun _ => t.any) (fun z => by cases z)
theorem clsV_refs : ∀ Ts : List Addr, Paired ClsV (Ts.map V.ref) (Ts.map Value.ref)
  | [] => .nil
  | T :: Ts => .cons (.own T) (clsV_refs Ts)
theorem r_isEA {R tp : Addr} {Ts : List Addr} (Cc : ExcC K R) (h : H tp = some (.tup (Ts.map V.ref))) (n : NoneOf K R Ts) (q : Q (.bl false) H) : uIsEA K (.ref R) none a [.ref a, .ref tp] H Q :=
  ⟨R, tp, _, _, false, rfl, rfl, Cc, rfl, h, clsV_refs Ts, n.any, q⟩
end
/-! rules whose K is told (a suite's context hides it) -/
theorem o_eqK {X : Cx} (K : PySem.W.Frag) (hu : X.A.units + 64 < cLine) (hK : X.K = K := by rfl) : OpR X (compareOp .Eq) (uEq K) := hK ▸ o_eq hu
theorem o_neK {X : Cx} (K : PySem.W.Frag) (hu : X.A.units + 64 < cLine) (hK : X.K = K := by rfl) : OpR X (compareOp .NotEq) (uNe K) := hK ▸ o_ne hu
theorem o_inSeq {X : Cx} (K : PySem.W.Frag) (hK : X.K = K := by rfl) : OpR X (compareOp .In) (rIn K false) := hK ▸ op_in_seq
/-! C(..) within a try -/
section
variable {X : Cx} {σ : L2.St} {H : Hp} {Q : VK} {k j : Nat} {ps : List Str} {sp : Sp} {E : L2.St → XK} {x : Str} {p pos : Pos} {e : Expr} {es : List Expr} {t : TA} {C : Addr}
def tMakeUS (C : Addr) (sp : Sp) (E : L2.St → XK) (t : TA) : TE := fun σ H Q => t σ H fun vs H1 => uMake C sp [] (E σ) vs H1 Q
theorem r_makeS (q : t σ H fun vs H1 => uMake C sp [] (E σ) vs H1 Q) : tMakeUS C sp E t σ H Q := q
theorem pe_makeS (G : PFn X.prog X.w X.K X.mg X.base k C ps sp) (T : ClT X.K X.mg x C) (hr : Room (j + 1) X.A) (hx : ∀ σ, PassesAt (L2.CX X.prog X.w) X σ (E σ)) (ha : PA X (e :: es) t) (hk : k ≤ j := by decide) (hg : Gl X x := by rfl)
    (hdb : (x == ("__debug__" : Str)) = false := by decide) (he : starEach (e :: es) X.env = (false, eval e X.env) :: starEach es X.env := by rfl) (hpl : (backTo pos (starEach es X.env)).any (·.1) = false := by rfl) :
    PE X (.Call (.Name x p) (e :: es) [] pos) (tMakeUS C sp E t) := by
  obtain ⟨f, fd, M, hb, F0⟩ := G.ex
  have F := F0.mono hk
  refine ⟨fun pins s σ H Q I h => ?_⟩
  refine wpAny_Call_Name_kw (ld_glob I hg T.g ?_ hdb)
  refine PySem.W.callWith_K (h₀ := X.base) I.ok.mod.kin M.kp (thn (ha.run pos pins s σ H _ I h) fun us s1 ⟨vs, H1, I1, r, q⟩ => ⟨I1.kIn, ?_⟩) he hpl
  -- the instance is made, then __init__ runs on it
  have hq := q (s1.heap.objs.size + 1) s1.heap.objs.size (I1.hok.fresh (Nat.le_succ _)) (I1.hok.fresh (Nat.le_refl _)) (Nat.ne_of_lt (Nat.lt_succ_self _))
  rw [List.append_nil] at hq
  have I2 := Inv.made (C := C) I1
  have r2 : Vals (V.ref (s1.heap.objs.size + 1) :: vs) (Value.ref (s1.heap.objs.size + 1) :: us) := .cons rfl r
  have hl : (Value.ref (s1.heap.objs.size + 1) :: us).length = ps.length := by
    rw [← r2.length, F.len _ _ _ _ hq]
  have bnd := hb _ (Value.ref (s1.heap.objs.size + 1) :: us) I2.kIn (by simpa using hl)
  rw [List.append_nil] at bnd
  refine wpAny_call (make_map (f := f) I1.kIn M.makes M.init (beq_iff_eq.mp M.fn) (codeAny_mono (F.run _ X.stack _ _ ⟨Value.ref (s1.heap.objs.size + 1) :: us, []⟩ (Value.ref (s1.heap.objs.size + 1) :: us) _ _ (E σ) (hr.make C us [])
    (I2.env0.make C us []) bnd r2 hq) fun r s' hq' => ?_))
  cases r with
  | error e => exact hx σ pins _ _ e s' I2 hq'
  | ok fl =>
    cases fl with
    | ret u =>
      obtain ⟨v, H', I3, rv, ev, q3⟩ := I2.after hq'
      subst ev
      exact ⟨rv, ⟨V.ref (s1.heap.objs.size + 1), H', I3, rfl, q3⟩⟩
    | next => exact False.elim hq'
    | brk => exact False.elim hq'
    | cont => exact False.elim hq'
end
end Fp
/-! what a text of a curve is, taken apart; how long its words may be -/
namespace Fp
open PySem PySem.Spec PyProof.Rows L2
open TL (tl tl_append mk_tl tl_mk spl spl_hit spl_miss joinL spl_nil)
theorem kit_bt {K : PySem.W.Frag} {R : Addr} {T : String} {b : Bool} (hm : PySem.W.kitMeta T = true) (h : PySem.W.subIn K (.ref R) (.type T) = some b) : PySem.W.kitOne K (.ref R) (.type T) = some b := by
  unfold PySem.W.kitOne
  rw [if_neg (by intro z; exact nomatch (beq_iff_eq.mp z))]
  show (if PySem.W.kitMeta T = true then PySem.W.subIn K (Value.ref R) (Value.type T) else none) = some b
  rw [if_pos hm]
  exact h
/-! ### rules -/
section
variable {X : Cx} {K : PySem.W.Frag} {H : Hp} {Q : VK}
def uNotInS : R2 := fun x y H Q => ∃ (c : Nat) (z : Str), x = .str ⟨#[c]⟩ ∧ y = .str z ∧ Q (.bl (!decide (c ∈ z.cps.toList))) H
theorem o_notInS : OpR X (compareOp .NotIn) uNotInS := op_notIn_sign
theorem r_notInS {c : Nat} {z : Str} (q : Q (.bl (!decide (c ∈ tl z))) H) : uNotInS (.str ⟨#[c]⟩) (.str z) H Q := ⟨c, z, rfl, rfl, q⟩
theorem r_intW {a : Str} {n : Int} (h : PySem.intText? a = some n) (hl : a.length ≤ 640) (q : Q (.int n) H) : uIntS [.str a] H Q := ⟨a, n, rfl, h, hl, q⟩
end
theorem tl_cut_to {w : Str} {i : Int} (h : 0 ≤ i) : tl (cutS w none (some i)) = (tl w).take i.toNat := by
  obtain ⟨n, rfl⟩ := Int.eq_ofNat_of_zero_le h
  unfold cutS
  rw [HT.sIx_nat]
  simp [HT.sIx, Str.length, tl]
theorem tl_cut_from {w : Str} {i : Int} (h : 0 ≤ i) : tl (cutS w (some i) none) = (tl w).drop i.toNat := by
  obtain ⟨n, rfl⟩ := Int.eq_ofNat_of_zero_le h
  unfold cutS
  rw [HT.sIx_nat]
  simp [HT.sIx, Str.length, tl]
  rw [List.take_of_length_le (by rw [List.length_drop]; simp)]
  by_cases z : n ≤ w.cps.size
  · rw [Nat.min_eq_left z]
  · rw [Nat.min_eq_right (by omega), List.drop_of_length_le (by simp), List.drop_of_length_le (by simp; omega)]
theorem str_empty {w : Str} : w = ("" : Str) ↔ tl w = [] := ⟨fun z => by rw [z]; decide +kernel, fun z => tl_inj (by rw [z]; decide +kernel)⟩
theorem paired_fun {α : Type} {f : α → V} : ∀ {as : List α} {ys : List V}, Paired (fun c y => y = f c) as ys → ys = as.map f
  | _, _, .nil => rfl
  | _, _, .cons h t => by rw [h, paired_fun t]; rfl
/-! ### words -/
def digOk (c : Nat) : Bool := decide (48 ≤ c) && decide (c ≤ 57)
def figs (w : List Nat) : List Nat := if w.take 1 = [45] then w.drop 1 else w
def okF (f : List Nat) : Bool := decide (f ≠ []) && f.all digOk && (decide (f.take 1 ≠ [48]) || decide (f = [48]))
def valW (w : List Nat) : Int := if w.take 1 = [45] then -((NumText.digitsVal (w.drop 1) : Nat) : Int) else ((NumText.digitsVal w : Nat) : Int)
def wordOf (w : List Nat) : Option Int := if okF (figs w) && decide (w ≠ [45, 48]) then some (valW w) else none
theorem take1_cons {w : List Nat} {c : Nat} (h : w.take 1 = [c]) : w = c :: w.drop 1 := by
  cases w with
  | nil => cases h
  | cons x r =>
    have e : x = c := by simpa using h
    rw [e]
    rfl
theorem allDigits {f : List Nat} (h : f.all digOk = true) : NumText.AllDigits f := fun c hc => by
  have := List.all_eq_true.mp h c hc
  unfold digOk at this
  simpa using this
theorem int_word {w : Str} (hf : figs (tl w) ≠ []) (hd : (figs (tl w)).all digOk = true) (hl : w.length ≤ 640) : intText? w = some (valW (tl w)) := by
  unfold figs at hf hd
  unfold valW
  split at hf
  · rename_i h
    rw [if_pos h] at hd
    rw [if_pos h]
    exact PySem.intText_neg (cs := (tl w).drop 1) (take1_cons h) (allDigits hd) hf (by omega)
  · rename_i h
    rw [if_neg h] at hd
    rw [if_neg h]
    exact PySem.intText_digits (allDigits hd) hf (by omega)
theorem figs_len (w : List Nat) : (figs w).length ≤ w.length := by
  unfold figs
  split
  · simp
  · omega
theorem num_nil {w : List Nat} (h : figs w = []) : wordOf w = none := by
  unfold wordOf okF
  rw [h]
  rfl
theorem num_sign {w : List Nat} (h : (figs w).all digOk = false) : wordOf w = none := by
  unfold wordOf okF
  rw [h]
  simp
theorem num_zero {w : List Nat} (h : (figs w).take 1 = [48]) (hw : w ≠ [48]) : wordOf w = none := by
  unfold wordOf okF
  by_cases z : figs w = [48]
  · have : w = [45, 48] := by
      unfold figs at z
      split at z
      · rename_i h1
        rw [take1_cons h1, z]
      · exact absurd z hw
    simp [this]
  · simp [h, z]
theorem num_ok {w : List Nat} (hf : figs w ≠ []) (hd : (figs w).all digOk = true) (h : (figs w).take 1 ≠ [48] ∨ w = [48]) : wordOf w = some (valW w) := by
  unfold wordOf okF
  rcases h with h | h
  · have : w ≠ [45, 48] := fun z => by subst z; exact h (by decide)
    simp [hf, hd, h, this]
  · subst h
    decide
theorem num_of {w : List Nat} (h : okF (figs w) = true) (hw : w ≠ [45, 48]) : wordOf w = some (valW w) := by
  unfold wordOf
  simp [h, hw]
theorem num_not {w : List Nat} (h : okF (figs w) = false) : wordOf w = none := by
  unfold wordOf
  simp [h]
theorem num_m0 : wordOf [45, 48] = none := by decide
/-! ### separators -/
theorem spl_at1 {s : Nat} {acc r : List Nat} : spl [s] 0 acc (s :: r) = acc :: spl [s] 0 [] r := by
  have h := spl_hit (S := [s]) (acc := acc) (r := r) (c := s) (by unfold TL.pre; simp)
  exact h
theorem spl_no1 {s c : Nat} {acc r : List Nat} (h : c ≠ s) : spl [s] 0 acc (c :: r) = spl [s] 0 (acc ++ [c]) r := spl_miss (TL.pre_of_head _ _ h)
theorem spl_in {s : Nat} : ∀ {t acc l : List Nat}, l ∈ spl [s] 0 acc t → ∃ x y, acc ++ t = x ++ l ++ y
  | [], acc, l, h => by
    rw [spl_nil, List.mem_singleton] at h
    exact ⟨[], [], by simp [h]⟩
  | c :: r, acc, l, h => by
    by_cases z : c = s
    · subst z
      rw [spl_at1] at h
      rcases List.mem_cons.mp h with h | h
      · exact ⟨[], c :: r, by simp [h]⟩
      · obtain ⟨x, y, e⟩ := spl_in h
        rw [List.nil_append] at e
        exact ⟨acc ++ c :: x, y, by rw [e]; simp⟩
    · rw [spl_no1 z] at h
      obtain ⟨x, y, e⟩ := spl_in h
      exact ⟨x, y, by rw [← e]; simp⟩
theorem spl_free {s : Nat} : ∀ {t acc l : List Nat}, s ∉ acc → l ∈ spl [s] 0 acc t → s ∉ l
  | [], acc, l, ha, h => by
    rw [spl_nil, List.mem_singleton] at h
    rw [h]
    exact ha
  | c :: r, acc, l, ha, h => by
    by_cases z : c = s
    · subst z
      rw [spl_at1] at h
      rcases List.mem_cons.mp h with h | h
      · rw [h]; exact ha
      · exact spl_free (by simp) h
    · rw [spl_no1 z] at h
      exact spl_free (by simp [ha]; exact fun e => z e.symm) h
theorem spl_ne {s : Nat} : ∀ {t acc : List Nat}, spl [s] 0 acc t ≠ []
  | [], acc => by rw [spl_nil]; simp
  | c :: r, acc => by
    by_cases z : c = s
    · subst z; rw [spl_at1]; simp
    · rw [spl_no1 z]; exact spl_ne
/-- how much a list of lines is -/
def szL (ls : List (List Nat)) : Nat := (ls.map List.length).sum + ls.length
theorem szL_cons (l : List Nat) (r : List (List Nat)) : szL (l :: r) = l.length + 1 + szL r := by
  unfold szL
  simp
  omega
theorem szL_app (a b : List (List Nat)) : szL (a ++ b) = szL a + szL b := by
  unfold szL
  simp
  omega
theorem szL_spl {s : Nat} : ∀ {t acc : List Nat}, szL (spl [s] 0 acc t) = acc.length + t.length + 1
  | [], acc => by rw [spl_nil]; simp [szL]
  | c :: r, acc => by
    by_cases z : c = s
    · subst z; rw [spl_at1, szL_cons, szL_spl]; simp; omega
    · rw [spl_no1 z, szL_spl]; simp; omega
theorem szL_len (ls : List (List Nat)) : ls.length ≤ szL ls := by unfold szL; omega
theorem szL_mem {ls : List (List Nat)} {l : List Nat} (h : l ∈ ls) : l.length + 1 ≤ szL ls := by
  induction ls with
  | nil => cases h
  | cons x r ih =>
    rw [szL_cons]
    rcases List.mem_cons.mp h with h | h
    · subst h; omega
    · have := ih h; omega
theorem joinL_len {s : Nat} : ∀ ls : List (List Nat), (joinL [s] ls).length ≤ szL ls
  | [] => Nat.zero_le _
  | [p] => by show p.length ≤ _; rw [szL_cons]; omega
  | p :: q :: r => by
    have h := joinL_len (s := s) (q :: r)
    show (p ++ ([s] ++ joinL [s] (q :: r))).length ≤ _
    rw [szL_cons]
    simp only [List.length_append, List.length_cons, List.length_nil]
    omega
/-! ### runs without separators -/
def Runs (M : Nat) (t : List Nat) : Prop := ∀ x u y, t = x ++ u ++ y → (∀ c ∈ u, c ≠ 32 ∧ c ≠ 10) → u.length ≤ M
theorem Runs.mono {M N : Nat} {t : List Nat} (h : Runs M t) (l : M ≤ N) : Runs N t := fun x u y e f => Nat.le_trans (h x u y e f) l
theorem Runs.short {M : Nat} {t : List Nat} (h : t.length ≤ M) : Runs M t := fun x u y e _ => by
  have := congrArg List.length e
  simp only [List.length_append] at this
  omega
theorem Runs.sub {M : Nat} {t x s y : List Nat} (h : Runs M t) (e : t = x ++ s ++ y) : Runs M s := fun p u q e2 f => by
  subst e2
  exact h (x ++ p) u (q ++ y) (by rw [e]; simp) f
theorem app_cut {x y p u q : List Nat} (e : x ++ y = p ++ u ++ q) : (∃ c, x = p ++ u ++ c) ∨ (∃ a b, x = p ++ a ∧ u = a ++ b ∧ y = b ++ q) ∨ (∃ c, y = c ++ u ++ q) := by
  rcases List.append_eq_append_iff.mp e with ⟨a, h1, h2⟩ | ⟨c, h1, h2⟩
  · rcases List.append_eq_append_iff.mp h1 with ⟨b, h3, h4⟩ | ⟨b, h3, h4⟩
    · exact .inr (.inl ⟨b, a, h3, h4, h2⟩)
    · exact .inr (.inr ⟨b, by rw [h2, h4]⟩)
  · exact .inl ⟨c, h1⟩
theorem Runs.app {a b : Nat} {x y : List Nat} (h1 : Runs a x) (h2 : Runs b y) : Runs (a + b) (x ++ y) := fun p u q e f => by
  rcases app_cut e with ⟨c, e1⟩ | ⟨v, w, e1, rfl, e2⟩ | ⟨c, e1⟩
  · have := h1 p u c e1 f
    omega
  · have i1 := h1 p v [] (by rw [e1]; simp) fun c hc => f c (List.mem_append_left _ hc)
    have i2 := h2 [] w q (by rw [e2]; simp) fun c hc => f c (List.mem_append_right _ hc)
    rw [List.length_append]
    omega
  · have := h2 c u q e1 f
    omega
theorem Runs.sep {M s : Nat} {x y : List Nat} (hs : s = 32 ∨ s = 10) (h1 : Runs M x) (h2 : Runs M y) : Runs M (x ++ (s :: y)) := fun p u q e f => by
  have bad : ∀ c ∈ u, c ≠ s := fun c hc z => by
    have := f c hc
    omega
  rcases app_cut e with ⟨c, e1⟩ | ⟨v, w, e1, rfl, e2⟩ | ⟨c, e1⟩
  · exact h1 p u c e1 f
  · cases w with
    | nil =>
      rw [List.append_nil]
      exact h1 p v [] (by rw [e1]; simp) fun c hc => f c (List.mem_append_left _ hc)
    | cons d w =>
      have : s = d := by injection e2
      exact absurd this.symm (bad d (by simp))
  · cases c with
    | nil =>
      cases u with
      | nil => simp
      | cons d w =>
        have : s = d := by injection e1
        exact absurd this.symm (bad d (by simp))
    | cons d c =>
      have : y = c ++ u ++ q := by injection e1
      exact h2 c u q this f
theorem Runs.join {M : Nat} : ∀ {ls : List (List Nat)}, (∀ l ∈ ls, Runs M l) → Runs M (joinL [10] ls)
  | [], _ => Runs.short (Nat.zero_le _)
  | [p], h => h p (List.mem_cons_self ..)
  | p :: q :: r, h => Runs.sep (.inr rfl) (h p (List.mem_cons_self ..)) (Runs.join fun l hl => h l (List.mem_cons_of_mem _ hl))
theorem Runs.line {M s : Nat} {t l : List Nat} (h : Runs M t) (hl : l ∈ spl [s] 0 [] t) : Runs M l := by
  obtain ⟨x, y, e⟩ := spl_in hl
  exact h.sub e
/-- a word of a line is short -/
theorem Runs.word {M : Nat} {t l w : List Nat} (h : Runs M t) (hl : l ∈ spl [10] 0 [] t) (hw : w ∈ spl [32] 0 [] l) : w.length ≤ M := by
  have h1 := h.line hl
  have f10 := spl_free (by simp) hl
  have f32 := spl_free (by simp) hw
  obtain ⟨x, y, e⟩ := spl_in hw
  rw [List.nil_append] at e
  refine h1 x w y e fun c hc => ⟨fun z => f32 (z ▸ hc), fun z => f10 ?_⟩
  rw [e, ← z]
  simp [hc]
/-! ### lines, texts -/
def pairO : Option Int → Option Int → Option (Int × Int)
  | some x, some y => some (x, y)
  | _, _ => none
def rdW : List (List Nat) → Option (Int × Int)
  | [a, b] => pairO (wordOf a) (wordOf b)
  | _ => none
def rd (l : List Nat) : Option (Int × Int) := rdW (spl [32] 0 [] l)
theorem rdW_len {ws : List (List Nat)} (h : ws.length ≠ 2) : rdW ws = none := by
  match ws, h with
  | [], _ => rfl
  | [_], _ => rfl
  | [_, _], h => exact absurd rfl h
  | _ :: _ :: _ :: _, _ => rfl
theorem rdW_none {ws : List (List Nat)} (h : none ∈ ws.map wordOf) : rdW ws = none := by
  match ws, h with
  | [], _ => rfl
  | [_], _ => rfl
  | [a, b], h =>
    have h : none = wordOf a ∨ none = wordOf b := by simpa using h
    show pairO (wordOf a) (wordOf b) = none
    rcases h with h | h
    · rw [← h]; rfl
    · rw [← h]; cases wordOf a <;> rfl
  | _ :: _ :: _ :: _, _ => rfl
theorem rdW_two {a b : List Nat} {x y : Int} (h1 : wordOf a = some x) (h2 : wordOf b = some y) : rdW [a, b] = some (x, y) := by
  show pairO (wordOf a) (wordOf b) = _
  rw [h1, h2]
  rfl
def rds : List (List Nat) → Option Prs
  | [] => some []
  | l :: r => match rd l, rds r with
    | some p, some c => some (p :: c)
    | _, _ => none
theorem rds_all : ∀ {ls : List (List Nat)} {c : Prs}, Paired (fun l p => rd l = some p) ls c → rds ls = some c
  | _, _, .nil => rfl
  | _, _, .cons h t => by
    unfold rds
    rw [h, rds_all t]
theorem rds_none : ∀ {ls : List (List Nat)} {l : List Nat}, l ∈ ls → rd l = none → rds ls = none
  | [], _, h, _ => by cases h
  | x :: r, l, h, e => by
    unfold rds
    rcases List.mem_cons.mp h with h | h
    · rw [← h, e]
    · rw [rds_none h e]
      cases rd x <;> rfl
theorem rds_app : ∀ {a b : List (List Nat)} {c d : Prs}, rds a = some c → rds b = some d → rds (a ++ b) = some (c ++ d)
  | [], b, c, d, h1, h2 => by
    have : [] = c := Option.some.inj h1
    rw [← this]
    exact h2
  | l :: a, b, c, d, h1, h2 => by
    unfold rds at h1
    cases hl : rd l with
    | none => rw [hl] at h1; cases h1
    | some p =>
      cases ha : rds a with
      | none => rw [hl, ha] at h1; cases h1
      | some c2 =>
        rw [hl, ha] at h1
        have : p :: c2 = c := Option.some.inj h1
        subst this
        show rds (l :: (a ++ b)) = _
        unfold rds
        rw [hl, rds_app ha h2]
        rfl
theorem rds_part : ∀ {a b : List (List Nat)} {e : Prs}, rds (a ++ b) = some e → ∃ c d, rds a = some c ∧ rds b = some d ∧ e = c ++ d
  | [], b, e, h => ⟨[], e, rfl, h, rfl⟩
  | l :: a, b, e, h => by
    have h : rds (l :: (a ++ b)) = some e := h
    unfold rds at h
    cases hl : rd l with
    | none => rw [hl] at h; cases h
    | some p =>
      cases ha : rds (a ++ b) with
      | none => rw [hl, ha] at h; cases h
      | some c2 =>
        rw [hl, ha] at h
        have : p :: c2 = e := Option.some.inj h
        subst this
        obtain ⟨c, d, e1, e2, rfl⟩ := rds_part ha
        exact ⟨p :: c, d, by unfold rds; rw [hl, e1], e2, rfl⟩
abbrev UpC (c : Prs) : Prop := c.Pairwise fun p q => p.1 < q.1
/-- c is the curve of which t is the text -/
structure TextOf (t : List Nat) (c : Prs) : Prop where
  last : (spl [10] 0 [] t).getLast? = some []
  rd : rds (spl [10] 0 [] t).dropLast = some c
  up : UpC c
theorem TextOf.uniq {t : List Nat} {c d : Prs} (h : TextOf t c) (h' : TextOf t d) : c = d := Option.some.inj (h.rd.symm.trans h'.rd)
theorem not_last {t : List Nat} (h : (spl [10] 0 [] t).getLast? ≠ some []) (c : Prs) : ¬ TextOf t c := fun z => h z.last
theorem not_rd {t : List Nat} {l : List Nat} (h : l ∈ (spl [10] 0 [] t).dropLast) (e : rd l = none) (c : Prs) : ¬ TextOf t c := fun z => by
  have h2 := z.rd
  rw [rds_none h e] at h2
  cases h2
/-- a time that does not rise -/
theorem not_rise {t : List Nat} {a b : List (List Nat)} {l : List Nat} {c : Prs} {p q : Int × Int} (e : (spl [10] 0 [] t).dropLast = a ++ l :: b) (h1 : rds a = some (c ++ [p])) (h2 : rd l = some q) (h : q.1 ≤ p.1) (d : Prs) : ¬ TextOf t d := fun z => by
  have h3 := z.rd
  rw [e] at h3
  obtain ⟨c1, d1, e1, e2, rfl⟩ := rds_part h3
  rw [h1] at e1
  have := Option.some.inj e1
  subst this
  unfold rds at e2
  rw [h2] at e2
  cases hb : rds b with
  | none => rw [hb] at e2; cases e2
  | some d2 =>
    rw [hb] at e2
    have : q :: d2 = d1 := Option.some.inj e2
    subst this
    have := (List.pairwise_append.mp z.up).2.2 p (by simp) q (by simp)
    omega
end Fp
namespace Lk15
open PySem PySem.Spec PyProof.Rows L2 Fp
open TL (tl tl_append)
/-! steps by their head -/
local macro_rules | `(tactic| walk_at "s") => `(tactic| first
  | (with_reducible refine' r_seq ?_)
  | (with_reducible refine' r_cons ?_)
  | ((with_reducible refine' r_var ?hvv ?_); (case hvv => exact rfl))
  | (with_reducible refine' r_c ?_)
  | (with_reducible refine' r_nil ?_)
  | (with_reducible refine' r_op ?_)
  | (with_reducible refine' r_tup ?_)
  | (with_reducible refine' r_lst ?_)
  | (with_reducible refine' r_I0 ?_)
  | (with_reducible refine' r_asg ?_)
  | (with_reducible refine' r_fn ?_)
  | (with_reducible refine' r_fnS ?_)
  | (with_reducible refine' r_CB ?_)
  | (with_reducible refine' r_ret ?_)
  | (with_reducible refine' r_ifS ?_)
  | (with_reducible refine' r_test ?_)
  | (with_reducible refine' r_B ?_)
  | (with_reducible refine' r_bl ?_)
  | (with_reducible refine' r_and ?_)
  | (with_reducible refine' r_or ?_)
  | (with_reducible refine' r_not ?_)
  | (with_reducible refine' r_yes ?_)
  | (with_reducible refine' r_andV ?_)
  | (with_reducible refine' r_orV ?_)
  | (with_reducible refine' r_notV ?_)
  | (with_reducible refine' r_if ?_)
  | (with_reducible refine' r_chain ?_)
  | (with_reducible refine' r_eq_i ?_)
  | (with_reducible refine' r_ne_i ?_)
  | (with_reducible refine' r_un ?_)
  | (with_reducible refine' r_U ?_)
  | (with_reducible refine' r_int_i ?_)
  | (with_reducible refine' r_int_b ?_)
  | (with_reducible refine' r_abs ?_)
  | (with_reducible refine' r_max2 ?_)
  | (with_reducible refine' r_min2 ?_)
  | (with_reducible refine' r_isB ?_)
  | (with_reducible refine' r_notB ?_)
  | (with_reducible refine' r_isN_n ?_)
  | (with_reducible refine' r_isN_i ?_)
  | (with_reducible refine' r_isN_r ?_)
  | (with_reducible refine' r_isN_s ?_)
  | (with_reducible refine' r_notN_n ?_)
  | (with_reducible refine' r_notN_i ?_)
  | (with_reducible refine' r_notN_r ?_)
  | (with_reducible refine' r_notN_s ?_)
  | ((with_reducible refine' r_isN ?hvv ?_); (case hvv => exact rfl))
  | ((with_reducible refine' r_notN ?hvv ?_); (case hvv => exact rfl))
  | ((with_reducible refine' r_aug ?hvv ?_); (case hvv => exact rfl))
  | (with_reducible refine' r_ipI ?_)
  | (with_reducible refine' r_next ?_)
  | (with_reducible refine' r_par ?_)
  | (with_reducible refine' r_par2 ?_)
  | (with_reducible refine' r_drop ?_)
  | (with_reducible refine' r_gname ?_)
  | (with_reducible refine' r_asgG ?_)
  | (with_reducible refine' r_gsub ?_)
  | (with_reducible refine' r_gcons ?_)
  | (with_reducible refine' r_gnil ?_)
  | (with_reducible refine' r_retN ?_)
  | (with_reducible refine' r_for ?_)
  | (with_reducible refine' r_lc ?_)
  | (with_reducible refine' r_ilist ?_)
  | (with_reducible refine' r_itup ?_)
  | (with_reducible refine' r_irng1 ?_)
  | (with_reducible refine' r_irng2 ?_)
  | (with_reducible refine' r_izip ?_)
  | (with_reducible refine' r_sl ?_)
  | (with_reducible refine' r_nopart ?_)
  | (with_reducible refine' r_part ?_)
  | (with_reducible refine' r_parti ?_)
  | (with_reducible refine' r_bm ?_)
  | (with_reducible refine' r_m1 ?_)
  | (with_reducible refine' r_m1s ?_)
  | (with_reducible refine' r_irngU ?_)
  | (with_reducible refine' r_bm0 ?_)
  | (with_reducible refine' r_revL ?_)
  | (with_reducible refine' r_isi_ii ?_)
  | (with_reducible refine' r_isi_ib ?_)
  | (with_reducible refine' r_isi_it ?_)
  | (with_reducible refine' r_isi_is ?_)
  | (with_reducible refine' r_isi_ni ?_)
  | (with_reducible refine' r_isi_nt ?_)
  | (with_reducible refine' r_isi_bb ?_)
  | (with_reducible refine' r_isi_bi ?_)
  | (with_reducible refine' r_isi_ss ?_)
  | (with_reducible refine' r_isi_si ?_)
  | (with_reducible refine' r_isi_st ?_)
  | (with_reducible refine' r_brk ?_)
  | (with_reducible refine' r_cont ?_)
  | (with_reducible refine' i_T ?_)
  | (with_reducible refine' i_F ?_)
  | (with_reducible refine' i_NT ?_)
  | (with_reducible refine' i_NF ?_)
  | fail)
/-! sides -/
local macro_rules | `(tactic| walk_at "mul") => `(tactic| first
  | exact mul_r (by decide) (by decide)
  | exact mul_l (by decide) (by decide)
  | exact mul_r (by omega) (by omega)
  | exact mul_l (by omega) (by omega)
  | exact mul_b (n := 256) (m := 256) (by omega) (by omega)
  | fail)
local macro_rules | `(tactic| walk_at "div") => `(tactic| first
  | exact div_b (n := 64) (by decide) (by decide)
  | exact div_b (n := 64) (by omega) (by omega)
  | exact div_b (n := 256) (by omega) (by omega)
  | fail)
local macro_rules | `(tactic| walk_at "ix") => `(tactic| first
  | rfl
  | assumption
  | fail)
/-- what a tuple, a list at an address is: by what is known, the heaps between going on -/
local macro_rules | `(tactic| walk_at "kp") => `(tactic| first
  | assumption
  | exact Keep.of_same (by assumption)
  | exact Keep.refl _
  | (refine' Keep.trans ?hk1 ?hk2; (case hk2 => first | assumption | exact Keep.of_same (by assumption)); (case hk1 => walk_at "kp"))
  | fail)
local macro_rules | `(tactic| walk_at "sm") => `(tactic| first
  | assumption
  | exact Same.refl _
  | (refine' Same.trans ?hk1 ?hk2; (case hk2 => assumption); (case hk1 => walk_at "sm"))
  | fail)
local macro_rules | `(tactic| walk_at "lk") => `(tactic| first
  | assumption
  | (refine' same_app ?hk1 ?hk2; (case hk1 => assumption); (case hk2 => walk_at "lk"))
  | (refine' Keep.app ?hk1 ?hk2 ?hk3; (case hk1 => assumption); (case hk2 => walk_at "lk"); (case hk3 => walk_at "ne"))
  | fail)
local macro_rules | `(tactic| walk_at "sqt") => `(tactic| first
  | assumption
  | (refine' SqT.of ?hk1; (case hk1 => walk_at "lk"))
  | walk_at "st"
  | fail)
local macro_rules | `(tactic| walk_at "sql") => `(tactic| first
  | assumption
  | (refine' SqL.of ?hk1; (case hk1 => walk_at "lk"))
  | (refine' Same.seq ?hk1 ?hk2; (case hk1 => assumption); (case hk2 => walk_at "sql"))
  | (refine' scr_sql ?hk1 ?hk2; (case hk1 => assumption); (case hk2 => walk_at "te"))
  | fail)
local macro_rules | `(tactic| walk_at "i") => `(tactic| first
  | ((with_reducible refine' r_ix01 ?hva ?_); (case hva => walk_at "sql"); intro _ _)
  | ((with_reducible refine' r_gtup ?hva ?hvb ?_); (case hva => walk_at "sqt"); (case hvb => exact rfl))
  | ((with_reducible refine' r_glst ?hva ?hvb ?_); (case hva => walk_at "sql"); (case hvb => exact rfl))
  | ((with_reducible refine' r_new ?hvv ?_); (case hvv => exact sz_lit rfl); intro _ _ _ _ _)
  | ((with_reducible refine' r_I ?hvv ?_); (case hvv => first | (with_reducible show IntMulOk _ _; walk_at "mul") | (with_reducible show CDivW _ _; walk_at "div") | (with_reducible show (0 : Int) < _; first | omega | exact two_pos _) | decide))
  | ((with_reducible refine' r_ixl ?hva ?hvb ?_); (case hva => walk_at "sql"); (case hvb => walk_at "ix"))
  | ((with_reducible refine' r_ixt ?hva ?hvb ?_); (case hva => walk_at "sqt"); (case hvb => walk_at "ix"))
  | ((with_reducible refine' r_len_l ?hva ?hvb ?_); (case hva => walk_at "sql"); (case hvb => first | (simp only [List.length_cons, List.length_nil, List.length_map, Nat.reduceAdd, Nat.zero_add]; exact rfl) | exact rfl))
  | ((with_reducible refine' r_len_t ?hva ?hvb ?_); (case hva => walk_at "sqt"); (case hvb => first | (simp only [List.length_cons, List.length_nil, List.length_map, Nat.reduceAdd, Nat.zero_add]; exact rfl) | exact rfl))
  | ((with_reducible refine' r_isi_tt ?hva ?_); (case hva => walk_at "sqt"))
  | ((with_reducible refine' r_isi_ti ?hva ?_); (case hva => walk_at "sqt"))
  | ((with_reducible refine' r_sll ?hva ?_); (case hva => walk_at "sql"); intro _ _ _ _ _)
  | ((with_reducible refine' r_revl ?hva ?_); (case hva => walk_at "sql"); intro _ _ _ _ _)
  | ((with_reducible refine' r_sla ?hva ?_); (case hva => walk_at "sqt"); intro _ _ _ _)
  | ((with_reducible refine' r_cat ?hva ?hvb ?hvc ?_); (case hva => walk_at "lk"); (case hvb => walk_at "lk"); (case hvc => first | exact sz_lit rfl | (refine sz_le ?_; omega)); intro _ _ _ _ _)
  | ((with_reducible refine' r_catA ?hva ?hvb ?hvc ?_); (case hva => walk_at "sqt"); (case hvb => walk_at "sqt"); (case hvc => first | exact sz_lit rfl | (refine sz_le ?_; omega)); intro _ _ _ _)
  | ((with_reducible refine' r_tuple_l ?hva ?_); (case hva => walk_at "sql"); intro _ _ _ _ _)
  | ((with_reducible refine' r_tuple_t ?hva ?_); (case hva => walk_at "sqt"))
  | ((with_reducible refine' r_list_l ?hva ?_); (case hva => walk_at "sql"); intro _ _ _ _ _)
  | ((with_reducible refine' r_list_t ?hva ?_); (case hva => walk_at "sqt"); intro _ _ _ _ _)
  | ((with_reducible refine' r_shl1 ?hva ?_); (case hva => omega))
  | ((with_reducible refine' r_shl2 ?hva ?_); (case hva => omega))
  | ((with_reducible refine' r_shl ?hva ?_); (case hva => omega))
  | (with_reducible refine' r_shr ?_)
  | ((with_reducible refine' i_pos ?hvv ?_); (case hvv => first | decide | omega))
  | ((with_reducible refine' i_neg ?hvv ?_); (case hvv => first | decide | omega))
  | ((with_reducible refine' i_npos ?hvv ?_); (case hvv => first | decide | omega))
  | ((with_reducible refine' i_nneg ?hvv ?_); (case hvv => first | decide | omega))
  | ((with_reducible refine' r_rng1 ?hva ?hvb ?_); (case hva => omega); (case hvb => omega))
  | ((with_reducible refine' r_rng2 ?hva ?hvb ?hvc ?hvd ?_); (case hva => omega); (case hvb => omega); (case hvc => omega); (case hvd => omega))
  | ((with_reducible refine' r_wl ?hva ?_); (case hva => walk_at "sql"))
  | ((with_reducible refine' r_wt ?hva ?_); (case hva => walk_at "sqt"))
  | fail)
local macro_rules | `(tactic| walk_at "call") => `(tactic| fail)
local macro_rules | `(tactic| walk_at "a") => `(tactic| repeat' (first | walk_at "s" | walk_at "i" | walk_at "call" | fail))

/-! steps of dicts by numbers -/
local macro_rules | `(tactic| walk_at "call") => `(tactic| first
  | (with_reducible refine' r_dpop1 ?_)
  | (with_reducible refine' r_dpop2 ?_)
  | (with_reducible refine' r_din ?_)
  | (with_reducible refine' r_dnotin ?_)
  | (with_reducible refine' r_dget2 ?_)
  | ((with_reducible refine' r_dpop1i ?hva ?_); (case hva => walk_at "lk"))
  | ((with_reducible refine' r_dpop2i ?hva ?_); (case hva => walk_at "lk"))
  | ((with_reducible refine' r_dget2i ?hva ?_); (case hva => walk_at "lk"))
  | ((with_reducible refine' r_dg1K ?hva ?_); (case hva => walk_at "lk"))
  | ((with_reducible refine' r_dini ?hva ?_); (case hva => walk_at "lk"))
  | ((with_reducible refine' r_dnotini ?hva ?_); (case hva => walk_at "lk"))
  | ((with_reducible refine' r_eqNil ?hva ?hvb ?_); (case hva => walk_at "sql"); (case hvb => walk_at "sql"))
  | ((with_reducible refine' r_neNil ?hva ?hvb ?_); (case hva => walk_at "sql"); (case hvb => walk_at "sql"))
  | fail)

/-! steps of try -/
local macro_rules | `(tactic| walk_at "call") => `(tactic| first
  | (with_reducible refine' r_tryAs ?_)
  | (with_reducible refine' r_tryOnly ?_)
  | (with_reducible refine' r_methS ?_)
  | (with_reducible refine' r_makeS ?_)
  | fail)

def top (i : Nat) : Stmt := PySem.Challenge.pw_fourpoints_k15_whole_texts_refused.main.body.getD i (.Pass ⟨0, 0, 0, 0⟩)
abbrev s_is_whole : Stmt := top 12
abbrev s_is_sample : Stmt := top 13
abbrev s_is_curve : Stmt := top 14
abbrev s_curve_text : Stmt := top 15
abbrev s_is_figures : Stmt := top 16
abbrev s_read_number : Stmt := top 17
abbrev s_read_sample : Stmt := top 18
abbrev s_read_curve : Stmt := top 19
abbrev s_law_cell : Stmt := top 21
abbrev s_law_pot : Stmt := top 22
abbrev s_law_take : Stmt := top 23
abbrev s_law_number : Stmt := top 24
abbrev s_law_samples : Stmt := top 25
abbrev s_law_curve : Stmt := top 26
abbrev s_law_whole_of : Stmt := top 27
abbrev s_law_curve_of : Stmt := top 28
abbrev s_law_read : Stmt := top 29
abbrev s_law_right : Stmt := top 30
abbrev s_law_spoilt : Stmt := top 31
abbrev s_law_fixed : Stmt := top 32
abbrev s_law : Stmt := top 33
theorem sc_is_whole : FnScope ["thing"] ["thing"] (defScope s_is_whole) := ⟨rfl, rfl, rfl, by decide +kernel, rfl, by decide +kernel, by decide +kernel⟩
theorem sc_is_sample : FnScope ["thing", "part"] ["thing"] (defScope s_is_sample) := ⟨rfl, rfl, rfl, by decide +kernel, rfl, by decide +kernel, by decide +kernel⟩
theorem sc_is_curve : FnScope ["thing", "one", "other"] ["thing"] (defScope s_is_curve) := ⟨rfl, rfl, rfl, by decide +kernel, rfl, by decide +kernel, by decide +kernel⟩
theorem sc_curve_text : FnScope ["curve", "t", "h"] ["curve"] (defScope s_curve_text) := ⟨rfl, rfl, rfl, by decide +kernel, rfl, by decide +kernel, by decide +kernel⟩
theorem sc_is_figures : FnScope ["text", "sign"] ["text"] (defScope s_is_figures) := ⟨rfl, rfl, rfl, by decide +kernel, rfl, by decide +kernel, by decide +kernel⟩
theorem sc_read_number : FnScope ["word", "figures"] ["word"] (defScope s_read_number) := ⟨rfl, rfl, rfl, by decide +kernel, rfl, by decide +kernel, by decide +kernel⟩
theorem sc_read_sample : FnScope ["line", "words"] ["line"] (defScope s_read_sample) := ⟨rfl, rfl, rfl, by decide +kernel, rfl, by decide +kernel, by decide +kernel⟩
theorem sc_read_curve : FnScope ["text", "lines", "curve", "line"] ["text"] (defScope s_read_curve) := ⟨rfl, rfl, rfl, by decide +kernel, rfl, by decide +kernel, by decide +kernel⟩
theorem sc_law_cell : FnScope ["_law_script", "_law_k"] ["_law_script", "_law_k"] (defScope s_law_cell) := ⟨rfl, rfl, rfl, by decide +kernel, rfl, by decide +kernel, by decide +kernel⟩
theorem sc_law_pot : FnScope ["_law_cell_here"] ["_law_cell_here"] (defScope s_law_pot) := ⟨rfl, rfl, rfl, by decide +kernel, rfl, by decide +kernel, by decide +kernel⟩
theorem sc_law_take : FnScope ["_law_pot_here", "_law_many", "_law_digit"] ["_law_pot_here", "_law_many"] (defScope s_law_take) := ⟨rfl, rfl, rfl, by decide +kernel, rfl, by decide +kernel, by decide +kernel⟩
theorem sc_law_number : FnScope ["_law_pot_here", "_law_way"] ["_law_pot_here"] (defScope s_law_number) := ⟨rfl, rfl, rfl, by decide +kernel, rfl, by decide +kernel, by decide +kernel⟩
theorem sc_law_samples : FnScope ["_law_script", "_law_found", "_law_k", "_law_pot_here"] ["_law_script"] (defScope s_law_samples) := ⟨rfl, rfl, rfl, by decide +kernel, rfl, by decide +kernel, by decide +kernel⟩
theorem sc_law_curve : FnScope ["_law_samples_here", "_law_held", "_law_t"] ["_law_samples_here"] (defScope s_law_curve) := ⟨rfl, rfl, rfl, by decide +kernel, rfl, by decide +kernel, by decide +kernel⟩
theorem sc_law_whole_of : FnScope ["_law_word", "_law_figures", "_law_sign"] ["_law_word"] (defScope s_law_whole_of) := ⟨rfl, rfl, rfl, by decide +kernel, rfl, by decide +kernel, by decide +kernel⟩
theorem sc_law_curve_of : FnScope ["_law_text", "_law_lines", "_law_found", "_law_line", "_law_numbers", "_law_word"] ["_law_text"] (defScope s_law_curve_of) := ⟨rfl, rfl, rfl, by decide +kernel, rfl, by decide +kernel, by decide +kernel⟩
theorem sc_law_read : FnScope ["_law_thing", "_law_found", "e", "_law_others"] ["_law_thing"] (defScope s_law_read) := ⟨rfl, rfl, rfl, by decide +kernel, rfl, by decide +kernel, by decide +kernel⟩
theorem sc_law_right : FnScope ["_law_text", "_law_due", "_law_found"] ["_law_text"] (defScope s_law_right) := ⟨rfl, rfl, rfl, by decide +kernel, rfl, by decide +kernel, by decide +kernel⟩
theorem sc_law_spoilt : FnScope ["_law_pot_here", "_law_text", "_law_signs", "_law_sign", "_law_at", "_law_way", "_law_lines", "_law_one", "_law_other"] ["_law_pot_here", "_law_text"] (defScope s_law_spoilt) := ⟨rfl, rfl, rfl, by decide +kernel, rfl, by decide +kernel, by decide +kernel⟩
theorem sc_law_fixed : FnScope ["_law_found"] [] (defScope s_law_fixed) := ⟨rfl, rfl, rfl, by decide +kernel, rfl, by decide +kernel, by decide +kernel⟩
theorem sc_law : FnScope ["_law_script", "_law_curve_here", "_law_good", "_law_k", "_law_pot_here", "_law_text", "_law_turn", "_law_thing"] ["_law_script"] (defScope s_law) := ⟨rfl, rfl, rfl, by decide +kernel, rfl, by decide +kernel, by decide +kernel⟩
/-! script[k] or 0 -/
def sp_nth (K : PySem.W.Frag) : Sp := fun vs H Q _ => ∃ (a : Addr) (ns : List Int) (k : Nat), vs = [.ref a, .int k] ∧ SqL K H a (ns.map V.int) ∧ Q (.int (ns.getD k 0)) H
theorem getD_map_int {ns : List Int} {k : Nat} (h : k < ns.length) : (ns.map V.int)[k]? = some (V.int (ns.getD k 0)) := by
  rw [List.getElem?_map, List.getElem?_eq_getElem h]
  simp [List.getD, h]
section
variable {P : Program} {w : World} {K : PySem.W.Frag} {mg : Str → Option Value} {base : Heap}
theorem ok_law_cell (B : Blt mg) (D : Def K mg "_law_cell" s_law_cell ["_law_script", "_law_k"]) :
    Fn P w K mg base 1 "_law_cell" ["_law_script", "_law_k"] (sp_nth K) := by
  refine D.ok sc_law_cell (fun vs H Q E h => ?_) (fun f cdv A outer s H vs Q E hr h => ?_)
  · obtain ⟨a, ns, k, rfl, hS, q⟩ := h
    rfl
  · obtain ⟨a, ns, k, rfl, hS, q⟩ := h
    refine ⟨_, (pss_one (ps_ret (pe_ifExp (pt_cmpR op_lt (pv 1) (pe_callB (crK K c_len) rfl B.len (by decide +kernel) (pa_cons (pv 0) pa_nil)) (nomark _)) (pe_ix (ixK K ix_seq) (pv 0) (pv 1) (fun _ _ => rfl)) pe_int))), ?_⟩
    refine r_start (σ' := [some (.ref a), some (.int k)]) rfl ?_
    walk_at "a"
    refine i_cases (fun hk => ?_) (fun hk => ?_)
    · walk_at "a"
      exact r_ixl hS (at_of rfl (getD_map_int (by omega))) q
    · walk_at "a"
      have e0 : ns.getD k 0 = 0 := by
        have h1 : ns.length ≤ k := by omega
        simp [List.getD, h1]
      rw [e0] at q
      exact q
end
theorem use_nth {K : PySem.W.Frag} {H : Hp} {Q : VK} {E : XK} {a : Addr} {ns : List Int} {z : Int} (h : SqL K H a (ns.map V.int)) (h0 : 0 ≤ z) (q : Q (.int (ns.getD z.toNat 0)) H) : sp_nth K [.ref a, .int z] H Q E :=
  ⟨a, ns, z.toNat, by rw [Int.toNat_of_nonneg h0], h, q⟩
local macro_rules | `(tactic| walk_at "call") => `(tactic| ((with_reducible refine' use_nth ?hva ?hvb ?_); (case hva => walk_at "sql"); (case hvb => omega)))

/-! the pot: a list of two numbers -/
structure Pot (H : Hp) (p : Addr) : Prop where
  ex : ∃ a b : Int, H p = some (.lst [.int a, .int b]) ∧ 0 ≤ a ∧ 0 ≤ b ∧ b < 4294967296
theorem Pot.keep {H H' : Hp} {p : Addr} {F : Addr → Prop} (h : Pot H p) (k : Keep F H H') (n : ¬ F p) : Pot H' p := by
  obtain ⟨a, b, e, r⟩ := h.ex
  exact ⟨a, b, k p _ e n, r⟩
theorem Pot.same {H H' : Hp} {p : Addr} (h : Pot H p) (k : Same H H') : Pot H' p := by
  obtain ⟨a, b, e, r⟩ := h.ex
  exact ⟨a, b, k p _ e, r⟩
theorem Pot.text {H H' : Hp} {p : Addr} (h : Pot H p) (k : Keep (At p) H H') : TExt H H' := by
  obtain ⟨a, b, e, r⟩ := h.ex
  exact TExt.lst k e
theorem Pot.ne_new {H : Hp} {p q : Addr} (h : Pot H p) (hn : H q = none) : q ≠ p := by
  obtain ⟨a, b, e, r⟩ := h.ex
  exact fun z => by rw [z, e] at hn; cases hn
def sp_pot (K : PySem.W.Frag) : Sp := fun vs H Q _ => ∃ c : Int, vs = [.int c] ∧ ∀ (p : Addr) (H' : Hp), H p = none → Same H H' → Pot H' p → Q (.ref p) H'
def sp_take (K : PySem.W.Frag) : Sp := fun vs H Q _ => ∃ (p : Addr) (n : Int), vs = [.ref p, .int n] ∧ Pot H p ∧ 0 < n ∧ n ≤ 1000000000000000000000000000000000000000000000000000000000000000000000000000 ∧
  ∀ (r : Int) (H' : Hp), Keep (At p) H H' → Pot H' p → 0 ≤ r → r < n → Q (.int r) H'
section
variable {P : Program} {w : World} {K : PySem.W.Frag} {mg : Str → Option Value} {base : Heap}
theorem ok_law_pot (B : Blt mg) (D : Def K mg "_law_pot" s_law_pot ["_law_cell_here"]) :
    Fn P w K mg base 1 "_law_pot" ["_law_cell_here"] (sp_pot K) := by
  refine D.ok sc_law_pot (fun vs H Q E h => ?_) (fun f cdv A outer s H vs Q E hr h => ?_)
  · obtain ⟨c, rfl, q⟩ := h
    rfl
  · obtain ⟨c, rfl, q⟩ := h
    refine ⟨_, (pss_one (ps_ret (pe_lst (pa_cons (pe_op op_mulY (pv 0) (pe_callTy c_int1 rfl B.int (by decide +kernel) (pa_cons (pe_cmpR op_ge (pv 0) (pe_powC (z := 1000000000000000000) (by decide +kernel) (by decide +kernel)) (nomark _)) pa_nil))) (pa_cons (pe_op op_mod (pe_op op_add (pe_op op_mulY (pv 0) pe_int) pe_int) pe_int) pa_nil))))), ?_⟩
    refine r_start (σ' := [some (.int c)]) rfl ?_
    walk_at "a"
    rename_i p H' hn h1 h2
    refine q p H' hn h1 ⟨_, _, h2, ?_, ?_, ?_⟩
    · split
      · rename_i h3
        have h4 := of_decide_eq_true h3
        omega
      · omega
    · omega
    · omega
end
section
variable {P : Program} {w : World} {K : PySem.W.Frag} {mg : Str → Option Value} {base : Heap}
theorem ok_law_take (B : Blt mg) (D : Def K mg "_law_take" s_law_take ["_law_pot_here", "_law_many"]) :
    Fn P w K mg base 1 "_law_take" ["_law_pot_here", "_law_many"] (sp_take K) := by
  refine D.ok sc_law_take (fun vs H Q E h => ?_) (fun f cdv A outer s H vs Q E hr h => ?_)
  · obtain ⟨p, n, rfl, hp, hn, hb, q⟩ := h
    rfl
  · obtain ⟨p, n, rfl, hp, hn, hb, q⟩ := h
    refine ⟨_, (pss_cons (ps_if (pt_cmpR op_gt (pe_ix (ixK K ix_seq) (pv 0) pe_int (fun _ _ => rfl)) pe_int (nomark _))
      (pss_cons (ps_set (i := 2) sc_law_take.nd rfl (Or.inl rfl) (pe_op op_mod (pe_ix (ixK K ix_seq) (pv 0) pe_int (fun _ _ => rfl)) (pv 1)))
      (pss_cons (ps_asg (pe_op op_fdivW (pe_ix (ixK K ix_seq) (pv 0) pe_int (fun _ _ => rfl)) (pv 1)) (pg_sub (pv 0) pe_int set_list))
      (pss_one (ps_ret (pv 2)))))
      pss_nil)
      (pss_cons (ps_asg (pe_op op_mod (pe_op op_add (pe_op op_mulY (pe_ix (ixK K ix_seq) (pv 0) pe_int (fun _ _ => rfl)) pe_int) pe_int) pe_int) (pg_sub (pv 0) pe_int set_list))
      (pss_one (ps_ret (pe_op op_mod (pe_op op_fdivW (pe_op op_mod (pe_op op_mulY (pe_ix (ixK K ix_seq) (pv 0) pe_int (fun _ _ => rfl)) (pe_ix (ixK K ix_seq) (pv 0) pe_int (fun _ _ => rfl))) pe_int) pe_int) (pv 1)))))), ?_⟩
    refine r_start (σ' := [some (.ref p), some (.int n), none]) rfl ?_
    obtain ⟨a, b, hp, ha, hb0, hb1⟩ := hp.ex
    walk_at "a"
    refine i_cases (fun hk => ?_) (fun hk => ?_)
    · walk_at "a"
      refine r_setl hp rfl fun H' h1 h2 => ?_
      walk_at "a"
      exact q _ H' h1 ⟨_, _, h2, Int.ediv_nonneg ha (by omega), hb0, hb1⟩ (Int.emod_nonneg _ (by omega)) (Int.emod_lt_of_pos _ hn)
    · walk_at "a"
      refine r_setl hp rfl fun H' h1 e2 => ?_
      have e2 : H' p = some (.lst [.int a, .int ((b * 39373 + 7919) % 2147483629)]) := e2
      generalize hc : (b * 39373 + 7919) % 2147483629 = c at e2
      have c0 : 0 ≤ c := by omega
      have c1 : c < 4294967296 := by omega
      clear hc
      walk_at "a"
      exact q _ H' h1 ⟨_, _, e2, ha, c0, c1⟩ (Int.emod_nonneg _ (by omega)) (Int.emod_lt_of_pos _ hn)
end
theorem use_pot {K : PySem.W.Frag} {H : Hp} {Q : VK} {E : XK} {c : Int} (q : ∀ (p : Addr) (H' : Hp), H p = none → Same H H' → Pot H' p → Q (.ref p) H') : sp_pot K [.int c] H Q E := ⟨c, rfl, q⟩
theorem use_take {K : PySem.W.Frag} {H : Hp} {Q : VK} {E : XK} {p : Addr} {n : Int} (h : Pot H p) (h0 : 0 < n) (h1 : n ≤ 1000000000000000000000000000000000000000000000000000000000000000000000000000) (q : ∀ (r : Int) (H' : Hp), Keep (At p) H H' → Pot H' p → 0 ≤ r → r < n → Q (.int r) H') : sp_take K [.ref p, .int n] H Q E :=
  ⟨p, n, rfl, h, h0, h1, q⟩
local macro_rules | `(tactic| walk_at "call") => `(tactic| ((with_reducible refine' use_take ?hva ?hvb ?hvc ?_); (case hva => walk_at "pot"); (case hvb => omega); (case hvc => omega); intro _ _ _ _ _ _))
local macro_rules | `(tactic| walk_at "call") => `(tactic| ((with_reducible refine' use_pot ?_); intro _ _ _ _ _))
local macro_rules | `(tactic| walk_at "pot") => `(tactic| first
  | assumption
  | (refine' Pot.same ?hk1 ?hk2; (case hk2 => assumption); (case hk1 => walk_at "pot"))
  | (refine' Pot.keep ?hk1 ?hk2 ?hk3; (case hk2 => assumption); (case hk1 => walk_at "pot"); (case hk3 => walk_at "ne"))
  | fail)
local macro_rules | `(tactic| walk_at "te") => `(tactic| first
  | assumption
  | exact TExt.refl _
  | exact TExt.of_same (by assumption)
  | (refine' Pot.text ?hk1 ?hk2; (case hk2 => assumption); (case hk1 => assumption))
  | (refine' TExt.trans ?hk1 ?hk2; (case hk2 => first | exact TExt.of_same (by assumption) | (refine' Pot.text ?hk3 ?hk4; (case hk4 => assumption); (case hk3 => walk_at "pot"))); (case hk1 => walk_at "te"))
  | fail)
/-- a tuple through the heaps -/
local macro_rules | `(tactic| walk_at "st") => `(tactic| first
  | assumption
  | exact SqT.of (by assumption)
  | (refine' SqT.text ?hk1 ?hk2; (case hk1 => first | exact TExt.of_same (by assumption) | (refine' Pot.text ?hk3 ?hk4; (case hk4 => assumption); (case hk3 => walk_at "pot"))); (case hk2 => walk_at "st"))
  | fail)
local macro_rules | `(tactic| walk_at "ne") => `(tactic| first
  | assumption
  | exact Ne.symm (by assumption)
  | (refine' Pot.ne_new ?hk1 ?hk2; (case hk2 => assumption); (case hk1 => walk_at "pot"))
  | fail)
/-! the law's promise -/
def sp_law (K : PySem.W.Frag) : Sp := fun vs H Q _ => ∃ a ns, vs = [.ref a] ∧ Scr K H a ns ∧ ns.length ≤ 63 ∧ ∀ H', Q (.bl true) H'
theorem sp_law_top {K : PySem.W.Frag} {H : Hp} {a : Addr} {ns : List Int} {E : XK} (hl : ns.length ≤ 63) (hb : ∀ z ∈ ns, Builtin.Int.intBits z ≤ 1048576) (hO : Only H) (hS : SqL K H a (ns.map V.int)) : sp_law K [.ref a] H (fun v _ => v = .bl true) E :=
  ⟨a, ns, rfl, Scr.of hO hS, hl, fun _ => rfl⟩
/-- a drawn number -/
def sp_drawn (lo hi : Int) (K : PySem.W.Frag) : Sp := fun vs H Q _ => ∃ p, vs = [.ref p] ∧ Pot H p ∧ ∀ (z : Int) (H' : Hp), Keep (At p) H H' → Pot H' p → lo ≤ z → z ≤ hi → Q (.int z) H'
theorem use_drawn {lo hi : Int} {K : PySem.W.Frag} {H : Hp} {Q : VK} {E : XK} {p : Addr} (h : Pot H p) (q : ∀ (z : Int) (H' : Hp), Keep (At p) H H' → Pot H' p → lo ≤ z → z ≤ hi → Q (.int z) H') : sp_drawn lo hi K [.ref p] H Q E := ⟨p, rfl, h, q⟩
local macro_rules | `(tactic| walk_at "call") => `(tactic| ((with_reducible refine' use_drawn ?hva ?_); (case hva => walk_at "pot"); intro _ _ _ _ _ _))
/-- a comprehension over range(n) that draws from the pot -/
theorem lc_pot {σ : L2.St} {H : Hp} {Q : VK} {n : Nat} {lo : Int} {p : Addr} {te : TE} {j : Nat} (hp : Pot H p) (hn : n ≤ 16777216) (R : Hp → Nat → V → Prop) (hR : ∀ H H' i y, TExt H H' → R H i y → R H' i y)
    (hs : ∀ (i : Nat) H2 (S : VK), i < n → Keep (At p) H H2 → Pot H2 p → (∀ y H3, Keep (At p) H2 H3 → Pot H3 p → R H3 i y → S y H3) → te ((wipe σ [j]).set j (some (.int (lo + i)))) H2 S)
    (q : ∀ D H' ys, H D = none → Keep (At p) H H' → Pot H' p → H' D = some (.lst ys) → Paired (R H') (List.range n) ys → Q (.ref D) H') : LcW (Itr lo n) (gName j) tYes te [j] σ H Q :=
  lc_rngK (fun H => Pot H p) hp (fun D hD => hp.ne_new hD) (fun H1 H2 h e => by obtain ⟨a, b, z, r⟩ := h.ex; exact ⟨a, b, by rw [e]; exact z, r⟩) (fun H1 H2 h k => h.text k) hn R hR hs q

/-! a drawn number -/
def sp_number (K : PySem.W.Frag) : Sp := sp_drawn (-1000000000000000000000000000000000000000000000000000000000000) 1000000000000000000000000000000000000000000000000000000000000 K
section
variable {P : Program} {w : World} {K : PySem.W.Frag} {mg : Str → Option Value} {base : Heap}
theorem ok_law_number (B : Blt mg) (D : Def K mg "_law_number" s_law_number ["_law_pot_here"]) (G_law_take : Fn P w K mg base 1 "_law_take" ["_law_pot_here", "_law_many"] (sp_take K)) :
    Fn P w K mg base 2 "_law_number" ["_law_pot_here"] (sp_number K) := by
  refine D.ok sc_law_number (fun vs H Q E h => ?_) (fun f cdv A outer s H vs Q E hr h => ?_)
  · obtain ⟨p, rfl, hp, q⟩ := h
    rfl
  · obtain ⟨p, rfl, hp, q⟩ := h
    refine ⟨_, (pss_cons (ps_set (i := 1) sc_law_number.nd rfl (Or.inl rfl) (pe_fn G_law_take hr (pa_cons (pv 0) (pa_cons pe_int pa_nil))))
      (pss_cons (ps_if (pt_cmpR (opK K (o_eq hr.units)) (pv 1) pe_int (nomark _))
      (pss_one (ps_ret (pe_op op_mulY (pe_op op_add (pe_op op_mulY (pe_fn G_law_take hr (pa_cons (pv 0) (pa_cons (pe_powC (z := 1000000000) (by decide +kernel) (by decide +kernel)) pa_nil))) (pe_powC (z := 100000) (by decide +kernel) (by decide +kernel))) (pe_fn G_law_take hr (pa_cons (pv 0) (pa_cons (pe_powC (z := 100000) (by decide +kernel) (by decide +kernel)) pa_nil)))) (pe_op op_sub pe_int (pe_op op_mulY pe_int (pe_fn G_law_take hr (pa_cons (pv 0) (pa_cons pe_int pa_nil))))))))
      pss_nil)
      (pss_cons (ps_if (pt_cmpR (opK K (o_eq hr.units)) (pv 1) pe_int (nomark _))
      (pss_one (ps_ret (pe_op op_sub (pe_fn G_law_take hr (pa_cons (pv 0) (pa_cons (pe_op op_mulY pe_int (pe_powC (z := 1000000) (by decide +kernel) (by decide +kernel))) pa_nil))) (pe_powC (z := 1000000) (by decide +kernel) (by decide +kernel)))))
      pss_nil)
      (pss_one (ps_ret (pe_op op_sub (pe_fn G_law_take hr (pa_cons (pv 0) (pa_cons pe_int pa_nil))) pe_int)))))), ?_⟩
    refine r_start (σ' := [some (.ref p), none]) rfl ?_
    walk_at "a"
    refine i_cases (fun h => ?_) (fun h => ?_)
    · walk_at "a"
      rename_i r H1 k1 p1 r0 r1 s H2 k2 p2 s0 s1 b H3 k3 p3 b0 b1
      obtain rfl | rfl : b = 0 ∨ b = 1 := by omega
      · exact q _ _ (by walk_at "kp") (by walk_at "pot") (by omega) (by omega)
      · exact q _ _ (by walk_at "kp") (by walk_at "pot") (by omega) (by omega)
    walk_at "a"
    refine i_cases (fun h => ?_) (fun h => ?_)
    · walk_at "a"
      exact q _ _ (by walk_at "kp") (by walk_at "pot") (by omega) (by omega)
    walk_at "a"
    exact q _ _ (by walk_at "kp") (by walk_at "pot") (by omega) (by omega)
end
theorem use_number {K : PySem.W.Frag} {H : Hp} {Q : VK} {E : XK} {p : Addr} (h : Pot H p) (q : ∀ (z : Int) (H' : Hp), Keep (At p) H H' → Pot H' p → -1000000000000000000000000000000000000000000000000000000000000 ≤ z → z ≤ 1000000000000000000000000000000000000000000000000000000000000 → Q (.int z) H') : sp_number K [.ref p] H Q E := ⟨p, rfl, h, q⟩
local macro_rules | `(tactic| walk_at "call") => `(tactic| ((with_reducible refine' use_number ?hva ?_); (case hva => walk_at "pot"); intro _ _ _ _ _ _))

/-! the drawn samples, their curve -/
def sp_samples (K : PySem.W.Frag) : Sp := fun vs H Q _ => ∃ (a : Addr) (ns : List Int), vs = [.ref a] ∧ Scr K H a ns ∧ ns.length ≤ 63 ∧
  ∀ (f : Addr) (l : Prs) (ws : List V) (H' : Hp), H f = none → Same H H' → H' f = some (.lst ws) → DpAll K H' ws (l.map pairP) → l.length ≤ 40 → (∀ p ∈ l, Bd p) → Q (.ref f) H'
section
variable {P : Program} {w : World} {K : PySem.W.Frag} {mg : Str → Option Value} {base : Heap}
theorem ok_law_samples (B : Blt mg) (D : Def K mg "_law_samples" s_law_samples ["_law_script"]) (G_law_pot : Fn P w K mg base 1 "_law_pot" ["_law_cell_here"] (sp_pot K)) (G_law_cell : Fn P w K mg base 1 "_law_cell" ["_law_script", "_law_k"] (sp_nth K)) (G_law_number : Fn P w K mg base 2 "_law_number" ["_law_pot_here"] (sp_number K)) :
    Fn P w K mg base 3 "_law_samples" ["_law_script"] (sp_samples K) := by
  refine D.ok sc_law_samples (fun vs H Q E h => ?_) (fun f cdv A outer s H vs Q E hr h => ?_)
  · obtain ⟨a, ns, rfl, hS, hl, q⟩ := h
    rfl
  · obtain ⟨a, ns, rfl, hS, hl, q⟩ := h
    refine ⟨_, (pss_cons (ps_set (i := 1) sc_law_samples.nd rfl (Or.inl rfl) (pe_lst pa_nil))
      (pss_cons (ps_for PassesOwn.never rfl (pi_range1 rfl B.range (pa_cons (pe_callB (c_min2 rfl) rfl B.min (by decide +kernel) (pa_cons pe_int (pa_cons (pe_callB (crK K c_len) rfl B.len (by decide +kernel) (pa_cons (pv 0) pa_nil)) pa_nil))) pa_nil)) (pg_name (i := 2) sc_law_samples.nd rfl (Or.inl rfl))
      (pss_cons (ps_set (i := 3) sc_law_samples.nd rfl (Or.inl rfl) (pe_fn G_law_pot hr (pa_cons (pe_op op_add (pe_fn G_law_cell hr (pa_cons (pv 0) (pa_cons (pv 2) pa_nil))) (pe_op op_mulY (pe_op op_mulY pe_int (pv 2)) (pe_callTy c_int1 rfl B.int (by decide +kernel) (pa_cons (pe_cmpR op_lt (pe_callB c_abs rfl B.abs (by decide +kernel) (pa_cons (pe_fn G_law_cell hr (pa_cons (pv 0) (pa_cons (pv 2) pa_nil))) pa_nil)) (pe_powC (z := 1000000000000000000) (by decide +kernel) (by decide +kernel)) (nomark _)) pa_nil)))) pa_nil)))
      (pss_one (ps_expr (peK_bm K PySem.F.plainAttrs_list PySem.F.slot_list_append PySem.F.type_list_append mt_append (pv 1) (pa_cons (pe_tup (pa_cons (pe_fn G_law_number hr (pa_cons (pv 3) pa_nil)) (pa_cons (pe_fn G_law_number hr (pa_cons (pv 3) pa_nil)) pa_nil))) pa_nil))))))
      (pss_one (ps_ret (pv 1))))), ?_⟩
    refine r_start (σ' := [some (.ref a), none, none, none]) rfl ?_
    have hS0 := hS.1
    walk_at "a"
    rename_i f Hf nf sf ef
    refine for_wk wk_rng (fun i σ H' => (∃ v1 v2 : Option V, σ = [some (.ref a), some (.ref f), v1, v2]) ∧ Same H H' ∧ ∃ ws, ∃ l : Prs, H' f = some (.lst ws) ∧ DpAll K H' ws (l.map pairP) ∧ l.length = i ∧ (∀ p ∈ l, Bd p))
      ⟨⟨_, _, rfl⟩, sf, [], [], ef, .nil, rfl, by simp⟩ (fun _ _ _ _ _ => trivial) ?_ ?_
    · rintro i x σ H1 H1' hi ⟨⟨v1, v2, rfl⟩, s1, ws, l, e1, d1, l1, b1⟩ ⟨rfl, rfl⟩
      have hS1 := (hS.text (TExt.of_same s1)).1
      walk_at "a"
      rename_i p2 H2 n2 s2 hp2
      refine r_bml (SqL.of (s2 _ _ e1)) ?_
      walk_at "a"
      rename_i z H3 k3 hp3 z0 z1 y H4 k4 hp4 y0 y1 p5 H5 n5 s5 e5
      have s4 : Same H1' H4 := same_at s2 n2 (k3.trans k4)
      have e4 := s5 _ _ (s4 _ _ e1)
      have hlw : ws.length = i := by rw [dpAll_len d1, List.length_map, l1]
      refine r_append e4 (by rw [sizeLine_eq]; omega) fun H6 k6 e6 => ?_
      have t6 := TExt.lst k6 e4
      walk_at "a"
      refine ⟨⟨_, _, rfl⟩, same_at ((s1.trans s4).trans s5) nf k6, _, l ++ [(z, y)], e6, ?_, by simp; omega, fun p hp => ?_⟩
      · rw [List.map_append]
        exact dpAll_snoc (DpAll.text t6 _ _ (imm_all _) (DpAll.same (s4.trans s5) _ _ d1)) (dp_of_pair (SqT.text t6 (SqT.of e5)))
      · rcases List.mem_append.mp hp with hp | hp
        · exact b1 p hp
        · have : p = (z, y) := by simpa using hp
          subst this
          exact ⟨by unfold big; exact ⟨z0, z1⟩, by unfold big; exact ⟨y0, y1⟩⟩
    · rintro σ H1 ⟨⟨v1, v2, rfl⟩, s1, ws, l, e1, d1, l1, b1⟩
      walk_at "a"
      exact q f l ws H1 nf s1 e1 d1 (by omega) b1
end
theorem use_samples {K : PySem.W.Frag} {H : Hp} {Q : VK} {E : XK} {a : Addr} {ns : List Int} (hS : Scr K H a ns) (hl : ns.length ≤ 63)
    (q : ∀ (f : Addr) (l : Prs) (ws : List V) (H' : Hp), H f = none → Same H H' → H' f = some (.lst ws) → DpAll K H' ws (l.map pairP) → l.length ≤ 40 → (∀ p ∈ l, Bd p) → Q (.ref f) H') : sp_samples K [.ref a] H Q E := ⟨a, ns, rfl, hS, hl, q⟩
def sp_curve (K : PySem.W.Frag) : Sp := fun vs H Q _ => ∃ (a : Addr) (l : Prs) (ws : List V), vs = [.ref a] ∧ SqL K H a ws ∧ DpAll K H ws (l.map pairP) ∧ l.length < 64 ∧ ∀ (c : Prs) p H', Same H H' → IsC l c → Dp K H' (.ref p) (prsD c) → Q (.ref p) H'
section
variable {P : Program} {w : World} {K : PySem.W.Frag} {mg : Str → Option Value} {base : Heap}
theorem ok_law_curve (B : Blt mg) (D : Def K mg "_law_curve" s_law_curve ["_law_samples_here"]) :
    Fn P w K mg base 1 "_law_curve" ["_law_samples_here"] (sp_curve K) := by
  refine D.ok sc_law_curve (fun vs H Q E h => ?_) (fun f cdv A outer s H vs Q E hr h => ?_)
  · obtain ⟨a, l, ws, rfl, ha, hd, hl, q⟩ := h
    rfl
  · obtain ⟨a, l, ws, rfl, ha, hd, hl, q⟩ := h
    refine ⟨_, (pss_cons (ps_set (i := 1) sc_law_curve.nd rfl (Or.inr rfl) (pe_callTy (crK K (c_dictP rfl)) rfl B.dict (by decide +kernel) (pa_cons (pv 0) pa_nil)))
      (pss_one (ps_ret (pe_callTy (crK K c_tuple) rfl B.tuple (by decide +kernel) (pa_cons (pe_lc (own := [("_law_t", 2)]) (g := gName 2) (tt := tYes) rfl sc_law_curve.nd (piK_list K (pe_callB (c_sortedD rfl) rfl B.sorted (by decide +kernel) (pa_cons (pv 1) pa_nil))) (blkOk_by (N := ["_law_samples_here", "_law_held", "_law_t"]) (sc := defScope s_law_curve) (by decide +kernel)) (fun _ _ _ _ _ => (pg_name (i := 2) sc_law_curve.nd rfl (Or.inl rfl))) (fun _ _ _ _ _ => pts_nil) (fun _ _ _ _ _ => (pe_tup (pa_cons (pv 2) (pa_cons (pe_dget (hu_of hr) (pv 1) (pv 2) (fun _ _ => rfl)) pa_nil))))) pa_nil))))), ?_⟩
    refine r_start (σ' := [some (.ref a), none, none]) rfl ?_
    walk_at "a"
    refine r_dict ha hd fun p1 H1 n1 s1 e1 => ?_
    walk_at "a"
    have hm := len_merge l []
    refine r_sortedD e1 (by simp at hm; omega) fun ys p2 H2 hp hs n2 s2 e2 => ?_
    walk_at "a"
    have nd := nd_merge l [] (by simp)
    refine lc_lstD (K := K) (as := ys) (fa := PyData.int) (SqL.of e2) (dpAll_ints K _ ys) (by rw [hp.length_eq, List.length_map]; simp at hm; omega) (fun _ => true) (fun t => pairP (t, (valP (mergeP [] l) t).getD 0)) (fun c => imm_pair _) (fun t x H3 S N ht s3 hx k1 k2 => ?_) (fun D H3 ys2 hD s3 e3 p3 => ?_)
    · cases dp_int hx
      refine r_gname ⟨wipe_one, ?_⟩
      walk_at "a"
      try refine r_dget ?_
      walk_at "a"
      obtain ⟨h, hh⟩ : ∃ h, valP (mergeP [] l) t = some h := by
        obtain ⟨q, hq, rfl⟩ := List.mem_map.mp (hp.mem_iff.mp ht)
        exact ⟨q.2, (valP_iff nd).mpr hq⟩
      refine r_dgeti (s3 _ _ (s2 _ _ e1)) hh ?_
      walk_at "a"
      rw [hh] at k1
      exact k1 rfl _ _ (by assumption) (dp_of_pair (SqT.of (by assumption)))
    · walk_at "a"
      rename_i p4 H4 n4 s4 e4
      have e : ((ys.filter fun _ => true).map fun t => pairP (t, (valP (mergeP [] l) t).getD 0)) = (outOf (mergeP [] l) ys).map pairP := by
        rw [Fp.filter_all]
        unfold outOf
        rw [List.map_map]
        rfl
      rw [e] at p3
      exact q _ p4 H4 (by walk_at "sm") (isC_out hp hs) (.tup (SqT.of e4) (DpAll.same s4 _ _ p3))
end
theorem use_curve {K : PySem.W.Frag} {H : Hp} {Q : VK} {E : XK} {a : Addr} {l : Prs} {ws : List V} (h : SqL K H a ws) (hd : DpAll K H ws (l.map pairP)) (hl : l.length < 64) (q : ∀ (c : Prs) p H', Same H H' → IsC l c → Dp K H' (.ref p) (prsD c) → Q (.ref p) H') : sp_curve K [.ref a] H Q E := ⟨a, l, ws, rfl, h, hd, hl, q⟩

/-! whether a thing is a whole number -/
def numV : V → Bool
  | .int _ => true
  | _ => false
theorem numV_dp {K : PySem.W.Frag} {H : Hp} {v : V} {d : PyData} (h : Dp K H v d) : (isT "int" d && !isT "bool" d) = numV v := by
  cases h <;> simp [isT, isK, tyN, numV]
def sp_is_number (K : PySem.W.Frag) : Sp := fun vs H Q _ => ∃ v d, vs = [v] ∧ Dp K H v d ∧ Q (.bl (numV v)) H
section
variable {P : Program} {w : World} {K : PySem.W.Frag} {mg : Str → Option Value} {base : Heap}
theorem ok_is_whole (B : Blt mg) (D : Def K mg "is_whole" s_is_whole ["thing"]) :
    Fn P w K mg base 1 "is_whole" ["thing"] (sp_is_number K) := by
  refine D.ok sc_is_whole (fun vs H Q E h => ?_) (fun f cdv A outer s H vs Q E hr h => ?_)
  · obtain ⟨v, d, rfl, hd, q⟩ := h
    rfl
  · obtain ⟨v, d, rfl, hd, q⟩ := h
    refine ⟨_, (pss_one (ps_ret (pe_and (pe_callB (crK K call_isi) rfl B.isinstance (by decide +kernel) (pa_cons (pv 0) (pa_cons (pe_bltn (v := .ty "int") rfl B.int (by decide +kernel) rfl) pa_nil))) (pe_one (pe_not (pe_callB (crK K call_isi) rfl B.isinstance (by decide +kernel) (pa_cons (pv 0) (pa_cons (pe_bltn (v := .ty "bool") rfl B.bool (by decide +kernel) rfl) pa_nil)))))))), ?_⟩
    refine r_start (σ' := [some (v)]) rfl ?_
    rw [← numV_dp hd] at q
    walk_at "a"
    refine r_isi hd (by decide) ?_
    walk_at "a"
    cases h1 : isT "int" d with
    | false =>
      rw [h1] at q
      walk_at "a"
      exact q
    | true =>
      rw [h1] at q
      walk_at "a"
      refine r_isi hd (by decide) ?_
      walk_at "a"
      exact q
end
theorem use_is_number {K : PySem.W.Frag} {H : Hp} {Q : VK} {E : XK} {v : V} {d : PyData} (h : Dp K H v d) (q : Q (.bl (numV v)) H) : sp_is_number K [v] H Q E := ⟨v, d, rfl, h, q⟩
theorem use_is_number_i {K : PySem.W.Frag} {H : Hp} {Q : VK} {E : XK} {i : Int} (q : Q (.bl true) H) : sp_is_number K [.int i] H Q E := ⟨_, .int i, rfl, .int i, q⟩
local macro_rules | `(tactic| walk_at "call") => `(tactic| ((with_reducible refine' use_is_number_i ?_)))

/-! whole numbers, samples, curves; texts of curves, read -/
def sp_is_sample (K : PySem.W.Frag) : Sp := fun vs H Q _ => ∃ v c, vs = [v] ∧ Dp K H v (pairP c) ∧ ∀ H', Same H H' → Q (.bl true) H'
section
variable {P : Program} {w : World} {K : PySem.W.Frag} {mg : Str → Option Value} {base : Heap}
theorem ok_is_sample (B : Blt mg) (D : Def K mg "is_sample" s_is_sample ["thing"]) (G_is_whole : Fn P w K mg base 1 "is_whole" ["thing"] (sp_is_number K)) :
    Fn P w K mg base 2 "is_sample" ["thing"] (sp_is_sample K) := by
  refine D.ok sc_is_sample (fun vs H Q E h => ?_) (fun f cdv A outer s H vs Q E hr h => ?_)
  · obtain ⟨v, c, rfl, hd, q⟩ := h
    rfl
  · obtain ⟨v, c, rfl, hd, q⟩ := h
    refine ⟨_, (pss_one (ps_ret (pe_and (pe_callB (crK K call_isi) rfl B.isinstance (by decide +kernel) (pa_cons (pv 0) (pa_cons (pe_bltn (v := .ty "tuple") rfl B.tuple (by decide +kernel) rfl) pa_nil))) (pe_and (pe_cmpR (opK K (o_eq hr.units)) (pe_callB (crK K c_len) rfl B.len (by decide +kernel) (pa_cons (pv 0) pa_nil)) pe_int (nomark _)) (pe_one (pe_callB (crK K (cr_all rfl)) rfl B.all (by decide +kernel) (pa_cons (pe_lc (own := [("part", 1)]) (g := gName 1) (tt := tYes) rfl sc_is_sample.nd (piK_tup K (pv 0)) (blkOk_by (N := ["thing", "part"]) (sc := defScope s_is_sample) (by decide +kernel)) (fun _ _ _ _ _ => (pg_name (i := 1) sc_is_sample.nd rfl (Or.inl rfl))) (fun _ _ _ _ _ => pts_nil) (fun _ _ _ _ _ => (pe_fn G_is_whole hr (pa_cons (pv 1) pa_nil)))) pa_nil))))))), ?_⟩
    refine r_start (σ' := [some (v), none]) rfl ?_
    obtain ⟨a, rfl, ha⟩ := dp_pair hd
    walk_at "a"
    refine lc_map wk_tup (fun H' e => SqT.text (TExt.of_same e) ha) (by simp) (fun _ => .bl true) (fun v H3 R hv s3 kk => ?_) (fun D H3 hD s3 e3 => ?_)
    · obtain ⟨t, rfl⟩ : ∃ t, v = .int t := by
        simp at hv
        rcases hv with rfl | rfl <;> exact ⟨_, rfl⟩
      walk_at "a"
      exact kk _ (Same.refl _)
    · walk_at "a"
      refine r_allT (SqL.of e3) (by simp) ?_
      exact q _ s3
end
theorem use_is_sample {K : PySem.W.Frag} {H : Hp} {Q : VK} {E : XK} {v : V} {c : Int × Int} (h : Dp K H v (pairP c)) (q : ∀ H', Same H H' → Q (.bl true) H') : sp_is_sample K [v] H Q E := ⟨v, c, rfl, h, q⟩
def sp_curve_text (K : PySem.W.Frag) : Sp := fun vs H Q _ => ∃ (v : V) (c : Prs), vs = [v] ∧ Dp K H v (prsD c) ∧ (∀ p ∈ c, Bdk 61 p) ∧ c.length ≤ 10000 ∧ ∀ H', Same H H' → Q (.str (textS c)) H'
theorem len_app (x y : Str) : (x ++ y).length = x.length + y.length := by rw [len_tl, len_tl, len_tl, tl_append, List.length_append]
theorem len_numS {i : Int} (h : i.natAbs < 10 ^ 61) : (numS i).length ≤ 62 := by rw [len_tl, tl_numS]; exact numT_len (by decide) h
theorem pow_1920 {i : Int} (h : i.natAbs < 10 ^ 61) : i.natAbs < 2 ^ 1920 := Nat.lt_trans h (by decide +kernel)
theorem line_nl (p : Int × Int) : numS p.1 ++ (" " : Str) ++ numS p.2 ++ ("\n" : Str) = lineNl p := by
  apply tl_inj
  rw [tl_append, tl_append, tl_append, tl_numS, tl_numS, show tl (" " : Str) = [32] by decide +kernel, show tl ("\n" : Str) = [10] by decide +kernel]
  rw [tl_lineNl]
  simp [lineT]
theorem join_text (c : Prs) : Txt.join ("" : Str) (c.map fun p => lineNl p) = textS c := by
  apply tl_inj
  rw [tl_join0, tl_textS, List.map_map]
  rfl
section
variable {P : Program} {w : World} {K : PySem.W.Frag} {mg : Str → Option Value} {base : Heap}
theorem ok_curve_text (B : Blt mg) (D : Def K mg "curve_text" s_curve_text ["curve"]) :
    Fn P w K mg base 1 "curve_text" ["curve"] (sp_curve_text K) := by
  refine D.ok sc_curve_text (fun vs H Q E h => ?_) (fun f cdv A outer s H vs Q E hr h => ?_)
  · obtain ⟨v, c, rfl, hd, hb, hl, q⟩ := h
    rfl
  · obtain ⟨v, c, rfl, hd, hb, hl, q⟩ := h
    refine ⟨_, (pss_one (ps_ret (pe_joinU K pe_str (pe_lc (own := [("t", 1), ("h", 2)]) (g := gTup K 2 (gCons (gName 1) (gCons (gName 2) gNil))) (tt := tYes) rfl sc_curve_text.nd (piK_tup K (pv 0)) (blkOk_by (N := ["curve", "t", "h"]) (sc := defScope s_curve_text) (by decide +kernel)) (fun _ _ _ _ _ => (pgK_tup K (n := 2) rfl (pgs_cons (pg_name (i := 1) sc_curve_text.nd rfl (Or.inl rfl)) (pgs_cons (pg_name (i := 2) sc_curve_text.nd rfl (Or.inl rfl)) pgs_nil)))) (fun _ _ _ _ _ => pts_nil) (fun _ _ _ _ _ => (pe_op o_adds (pe_op o_adds (pe_op o_adds (pe_callTy c_str rfl B.str (by decide +kernel) (pa_cons (pv 1) pa_nil)) pe_str) (pe_callTy c_str rfl B.str (by decide +kernel) (pa_cons (pv 2) pa_nil))) pe_str)))))), ?_⟩
    refine r_start (σ' := [some (v), none, none]) rfl ?_
    obtain ⟨a, ws, rfl, ha, hw⟩ := dp_tup hd
    walk_at "a"
    refine lc_tupD ha hw (by omega) (fun _ => true) (fun p => .str (lineNl p)) (fun _ => rfl) (fun c x H2 S N hc s2 hx k1 k2 => ?_) (fun D H2 ys hD s2 e2 p2 => ?_)
    · obtain ⟨px, rfl, hpx⟩ := dp_pair hx
      have h1 := len_numS (hb c hc).t
      have h2 := len_numS (hb c hc).h
      have z1 : (" " : Str).length = 1 := by decide +kernel
      have z2 : ("\n" : Str).length = 1 := by decide +kernel
      walk_at "a"
      refine ⟨rfl, ?_⟩
      walk_at "a"
      refine r_str (pow_1920 (hb c hc).t) ?_
      walk_at "a"
      refine r_adds (by rw [sizeLine_eq]; omega) ?_
      walk_at "a"
      refine r_str (pow_1920 (hb c hc).h) ?_
      refine r_adds (by rw [sizeLine_eq, len_app]; omega) ?_
      walk_at "a"
      refine r_adds (by rw [sizeLine_eq, len_app, len_app]; omega) ?_
      rw [line_nl]
      exact k1 rfl _ _ (Same.refl _) (.str _)
    · rw [Fp.filter_all, show (c.map fun p => PyData.str (lineNl p)) = (c.map fun p => lineNl p).map PyData.str by rw [List.map_map]; rfl] at p2
      have ey := dpAll_strs p2
      subst ey
      refine r_join (SqL.of e2) ?_ ?_
      · have hz : ("" : Str).length = 0 := by decide +kernel
        have hB := sum_lens (B := 126) (l := c.map fun p => lineNl p) fun s hs => by
          obtain ⟨p, hp, rfl⟩ := List.mem_map.mp hs
          have := lineT_len (by decide) (hb p hp)
          rw [len_tl, tl_lineNl, List.length_append]
          simp only [List.length_cons, List.length_nil]
          omega
        rw [List.length_map] at hB ⊢
        rw [hz]
        omega
      rw [join_text]
      exact q _ s2
end
theorem use_curve_text {K : PySem.W.Frag} {H : Hp} {Q : VK} {E : XK} {v : V} {c : Prs} (h : Dp K H v (prsD c)) (hb : ∀ p ∈ c, Bdk 61 p) (hl : c.length ≤ 10000) (q : ∀ H', Same H H' → Q (.str (textS c)) H') : sp_curve_text K [v] H Q E := ⟨v, c, rfl, h, hb, hl, q⟩
def figN : List Nat := [48, 49, 50, 51, 52, 53, 54, 55, 56, 57]
theorem tl_fig : tl ("0123456789" : Str) = figN := by decide +kernel
theorem fig_mem {c : Nat} (h : 48 ≤ c ∧ c ≤ 57) : c ∈ figN := by
  unfold figN
  simp
  omega
theorem one_sign {c d : Nat} : ((⟨#[c]⟩ : Str) = ⟨#[d]⟩) ↔ c = d := by simp
/-! ### texts taken apart by the program -/
theorem fig_iff {c : Nat} : c ∈ figN ↔ digOk c = true := by
  unfold figN digOk
  simp
  omega
def sp_isf (K : PySem.W.Frag) : Sp := fun vs H Q _ => ∃ w : Str, vs = [.str w] ∧ w.length ≤ 1000000 ∧ ∀ H', Same H H' → Q (.bl (okF (tl w))) H'
section
variable {P : Program} {w : World} {K : PySem.W.Frag} {mg : Str → Option Value} {base : Heap}
theorem ok_is_figures (B : Blt mg) (D : Def K mg "is_figures" s_is_figures ["text"]) {tk_FIGURES : Tok} (C_FIGURES : mg "FIGURES" = some (.str "0123456789" tk_FIGURES)) :
    Fn P w K mg base 1 "is_figures" ["text"] (sp_isf K) := by
  refine D.ok sc_is_figures (fun vs H Q E h => ?_) (fun f cdv A outer s H vs Q E hr h => ?_)
  · obtain ⟨w', rfl, hl, q⟩ := h
    rfl
  · obtain ⟨w', rfl, hl, q⟩ := h
    refine ⟨_, (pss_cons (ps_if (PW.pt (pw_or (pt_cmpR (opK K (o_eq hr.units)) (pv 0) pe_str (nomark _)) (pw_or1 (pt_not (pt_val (pe_callB (crK K (cr_all rfl)) rfl B.all (by decide +kernel) (pa_cons (pe_lc (own := [("sign", 1)]) (g := gName 1) (tt := tYes) rfl sc_is_figures.nd (pi_strU (pv 0)) (blkOk_by (N := ["text", "sign"]) (sc := defScope s_is_figures) (by decide +kernel)) (fun _ _ _ _ _ => (pg_name (i := 1) sc_is_figures.nd rfl (Or.inl rfl))) (fun _ _ _ _ _ => pts_nil) (fun _ _ _ _ _ => (pe_cmpR o_inS (pv 1) (pe_glob (v := .str "0123456789") rfl C_FIGURES ⟨_, rfl⟩) (by with_unfolding_all rfl)))) pa_nil)))))))
      (pss_one (ps_ret pe_bl))
      pss_nil)
      (pss_one (ps_ret (pe_or (pe_cmpR (opK K (o_ne hr.units)) (pe_ix (ixK K ix_seq) (pv 0) pe_int (fun _ _ => rfl)) pe_str (nomark _)) (pe_one (pe_cmpR (opK K (o_eq hr.units)) (pv 0) pe_str (nomark _))))))), ?_⟩
    refine r_start (σ' := [some (.str w'), none]) rfl ?_
    walk_at "a"
    refine r_eq_s ?_
    by_cases hn : tl w' = []
    · rw [decide_eq_true (str_empty.mpr hn)]
      walk_at "a"
      rw [hn] at q
      exact q _ (Same.refl _)
    rw [decide_eq_false (fun z => hn (str_empty.mp z))]
    walk_at "a"
    refine r_istrU ?_
    walk_at "a"
    refine r_strW ?_
    refine lc_gen (as := tl w') (fun c v _ => v = .str ⟨#[c]⟩) (src := fun _ => True) (item := fun i H v H' => H' = H ∧ ∃ c, (tl w')[i]? = some c ∧ v = .str ⟨#[c]⟩) wk_str
      (fun i H2 v H' hi h => by obtain ⟨rfl, c, hc, rfl⟩ := h; exact ⟨c, hc, Same.refl _, rfl⟩) (fun _ _ => trivial) (by rw [← len_tl]; omega) (fun _ => true) (fun _ c y => y = .bl (digOk c)) (fun _ _ _ _ _ h => h) (fun c v H2 S N hc s2 hv k1 k2 => ?_) (fun D H2 ys hD s2 e2 p2 => ?_)
    · subst hv
      refine r_gname ⟨wipe_one, ?_⟩
      walk_at "a"
      refine r_inS ?_
      rw [tl_fig]
      refine k1 rfl _ _ (Same.refl _) ?_
      congr 1
      by_cases z : c ∈ figN
      · rw [decide_eq_true z, fig_iff.mp z]
      · rw [decide_eq_false z]
        cases h : digOk c with
        | true => exact absurd (fig_iff.mpr h) z
        | false => rfl
    · rw [Fp.filter_all] at p2
      have ey := paired_fun p2
      rw [show ((tl w').map fun c => V.bl (digOk c)) = ((tl w').map digOk).map V.bl by rw [List.map_map]; rfl] at ey
      subst ey
      walk_at "a"
      refine r_all (SqL.of e2) ?_
      rw [List.all_map, show (id ∘ digOk) = digOk from rfl]
      have q := q _ s2
      unfold okF at q
      rw [decide_eq_true hn] at q
      cases ha : (tl w').all digOk with
      | false =>
        rw [ha] at q
        walk_at "a"
        exact q
      | true =>
        rw [ha] at q
        walk_at "a"
        obtain ⟨c, r, e⟩ : ∃ c r, tl w' = c :: r := by
          cases h : tl w' with
          | nil => exact absurd h hn
          | cons c r => exact ⟨c, r, rfl⟩
        refine r_ixs (c := c) (by rw [sizeLine_eq]; omega) (by rw [show w'.cps.toList = c :: r from e]; exact atI_nat (j := 0) rfl) ?_
        walk_at "a"
        refine r_ne_s ?_
        have e1 : (tl w').take 1 = [c] := by rw [e]; rfl
        by_cases h48 : c = 48
        · rw [decide_eq_true (show (⟨#[c]⟩ : Str) = Str.ofString "0" by rw [h48]; decide +kernel)]
          walk_at "a"
          refine r_eq_s ?_
          have e0 : decide (w' = Str.ofString "0") = decide (tl w' = [48]) := by
            by_cases z : tl w' = [48]
            · rw [decide_eq_true z, decide_eq_true (tl_inj (by rw [z]; decide +kernel))]
            · rw [decide_eq_false z, decide_eq_false (fun y => z (by rw [y]; decide +kernel))]
          rw [e1, h48] at q
          rw [e0]
          simpa using q
        · rw [decide_eq_false (show ¬ (⟨#[c]⟩ : Str) = Str.ofString "0" by rw [show Str.ofString "0" = (⟨#[48]⟩ : Str) by decide +kernel, one_sign]; exact h48)]
          walk_at "a"
          rw [e1] at q
          simpa [h48] using q
end
theorem use_isf {K : PySem.W.Frag} {H : Hp} {Q : VK} {E : XK} {w : Str} (hl : w.length ≤ 1000000) (q : ∀ H', Same H H' → Q (.bl (okF (tl w))) H') : sp_isf K [.str w] H Q E := ⟨w, rfl, hl, q⟩
def sp_rnum (C : Addr) (K : PySem.W.Frag) : Sp := fun vs H Q E => ∃ w : Str, vs = [.str w] ∧ w.length ≤ 640 ∧ (∀ i H', Same H H' → wordOf (tl w) = some i → Q (.int i) H') ∧ (wordOf (tl w) = none → ∀ H', Same H H' → E (.ref C) none H')
theorem okF_ne {f : List Nat} (h : okF f = true) : f ≠ [] ∧ f.all digOk = true := by
  unfold okF at h
  rw [Bool.and_eq_true, Bool.and_eq_true, decide_eq_true_eq] at h
  exact h.1
section
variable {P : Program} {w : World} {K : PySem.W.Frag} {mg : Str → Option Value} {base : Heap}
theorem ok_read_number (B : Blt mg) (D : Def K mg "read_number" s_read_number ["word"]) {E_NoText : Addr} (X_NoText : Exc K mg "NoText" E_NoText) (G_is_figures : Fn P w K mg base 1 "is_figures" ["text"] (sp_isf K)) :
    Fn P w K mg base 2 "read_number" ["word"] (sp_rnum E_NoText K) := by
  refine D.okX sc_read_number (fun vs H Q E h => ?_) (fun f cdv A outer s H vs Q E hr h => ?_)
  · obtain ⟨w', rfl, hl, q, x⟩ := h
    rfl
  · obtain ⟨w', rfl, hl, q, x⟩ := h
    refine ⟨_, (pss_cons (ps_set (i := 1) sc_read_number.nd rfl (Or.inl rfl) (pv 0))
      (pss_cons (ps_if (pt_cmpR (opK K (o_eq hr.units)) (pe_slice o_slS (pv 0) po_none (po_some pe_int)) pe_str (nomark _))
      (pss_one (ps_set (i := 1) sc_read_number.nd rfl (Or.inl rfl) (pe_slice o_slS (pv 0) (po_some pe_int) po_none)))
      pss_nil)
      (pss_cons (ps_if (PW.pt (pw_or (pt_not (pt_val (pe_fn G_is_figures hr (pa_cons (pv 1) pa_nil)))) (pw_or1 (pt_cmpR (opK K (o_eq hr.units)) (pv 0) pe_str (nomark _)))))
      (pss_one (ps_rs X_NoText (takes_of rfl rfl rfl rfl)))
      pss_nil)
      (pss_one (ps_ret (pe_callTy c_intS rfl B.int (by decide +kernel) (pa_cons (pv 0) pa_nil))))))), ?_⟩
    refine r_start (σ' := [some (.str w'), none]) rfl ?_
    have rest : ∀ f : Str, tl f = figs (tl w') → f.length ≤ 640 → tSeq (tIfS
              (tOr (tNot (tB (tFn (sp_isf K) E0 (tCons (tVar 1) tNil))))
                (tTest (tOp (uEq K) (tVar 0) (tC (V.str (Str.ofString "-0"))))))
              (fun x σ H => E (Value.ref E_NoText) none H) tNext)
            (tRet (tCB uIntS (tCons (tVar 0) tNil))) { nx := fun x H' => Q V.non H', rt := Q } [some (V.str w'), some (V.str f)] H := fun f hf hfl => by
      walk_at "a"
      refine use_isf (by omega) fun H2 s2 => ?_
      rw [hf]
      cases ho : okF (figs (tl w')) with
      | false =>
        walk_at "a"
        exact x (num_not ho) _ s2
      | true =>
        walk_at "a"
        refine r_eq_s ?_
        by_cases hz : tl w' = [45, 48]
        · rw [decide_eq_true (show w' = Str.ofString "-0" from tl_inj (by rw [hz]; decide +kernel))]
          walk_at "a"
          exact x (by rw [hz]; exact num_m0) _ s2
        · rw [decide_eq_false (show ¬ w' = Str.ofString "-0" from fun z => hz (by rw [z]; decide +kernel))]
          walk_at "a"
          obtain ⟨o1, o2⟩ := okF_ne ho
          exact r_intW (int_word o1 o2 hl) hl (q _ _ s2 (num_of ho hz))
    walk_at "a"
    refine r_slS (by rw [sizeLine_eq]; omega) ?_
    walk_at "a"
    refine r_eq_s ?_
    have t1 := tl_cut_to (w := w') (i := 1) (by decide)
    have t2 := tl_cut_from (w := w') (i := 1) (by decide)
    by_cases h : (tl w').take 1 = [45]
    · rw [decide_eq_true (show cutS w' none (some 1) = Str.ofString "-" from tl_inj (by rw [t1]; exact h.trans (by decide +kernel)))]
      walk_at "a"
      refine r_slS (by rw [sizeLine_eq]; omega) ?_
      exact rest _ (by rw [t2]; unfold figs; rw [if_pos h]; rfl) (by rw [len_tl, t2, List.length_drop, ← len_tl]; omega)
    · rw [decide_eq_false (show ¬ cutS w' none (some 1) = Str.ofString "-" from fun z => h (by rw [← show tl (Str.ofString "-") = [45] by decide +kernel, ← z, t1]; rfl))]
      exact ⟨false, rfl, i_F (r_next (rest _ (by unfold figs; rw [if_neg h]) hl))⟩
end
theorem use_rnum {C : Addr} {K : PySem.W.Frag} {H : Hp} {Q : VK} {E : XK} {w : Str} (hl : w.length ≤ 640) (q : ∀ i H', Same H H' → wordOf (tl w) = some i → Q (.int i) H') (x : wordOf (tl w) = none → ∀ H', Same H H' → E (.ref C) none H') : sp_rnum C K [.str w] H Q E := ⟨w, rfl, hl, q, x⟩
theorem split_words (l : Str) : (Txt.split l (" " : Str)).map tl = TL.spl [32] 0 [] (tl l) := by
  rw [TL.split_spl _ _ (by decide +kernel) (TL.kind_ok (by decide +kernel)), show tl (" " : Str) = [32] by decide +kernel]
theorem split_lines (l : Str) : (Txt.split l ("\n" : Str)).map tl = TL.spl [10] 0 [] (tl l) := by
  rw [TL.split_spl _ _ (by decide +kernel) (TL.kind_ok (by decide +kernel)), show tl ("\n" : Str) = [10] by decide +kernel]
def sp_rsmp (C : Addr) (K : PySem.W.Frag) : Sp := fun vs H Q E => ∃ l : Str, vs = [.str l] ∧ l.length ≤ 1000000 ∧ (∀ w ∈ TL.spl [32] 0 [] (tl l), w.length ≤ 640) ∧
  (∀ p a H', Same H H' → rd (tl l) = some p → Dp K H' (.ref a) (pairP p) → Q (.ref a) H') ∧ (rd (tl l) = none → ∀ H', Same H H' → E (.ref C) none H')
theorem two_strs {l : List Str} (h : l.length = 2) : ∃ a b, l = [a, b] := by
  match l, h with
  | [a, b], _ => exact ⟨a, b, rfl⟩
section
variable {P : Program} {w : World} {K : PySem.W.Frag} {mg : Str → Option Value} {base : Heap}
theorem ok_read_sample (B : Blt mg) (D : Def K mg "read_sample" s_read_sample ["line"]) {E_NoText : Addr} (X_NoText : Exc K mg "NoText" E_NoText) (G_read_number : Fn P w K mg base 2 "read_number" ["word"] (sp_rnum E_NoText K)) :
    Fn P w K mg base 3 "read_sample" ["line"] (sp_rsmp E_NoText K) := by
  refine D.okX sc_read_sample (fun vs H Q E h => ?_) (fun f cdv A outer s H vs Q E hr h => ?_)
  · obtain ⟨l, rfl, hl, hw, q, x⟩ := h
    rfl
  · obtain ⟨l, rfl, hl, hw, q, x⟩ := h
    refine ⟨_, (pss_cons (ps_set (i := 1) sc_read_sample.nd rfl (Or.inl rfl) (pe_splitU (pv 0) pe_str))
      (pss_cons (ps_if (pt_cmpR (opK K (o_ne hr.units)) (pe_callB (crK K c_len) rfl B.len (by decide +kernel) (pa_cons (pv 1) pa_nil)) pe_int (nomark _))
      (pss_one (ps_rs X_NoText (takes_of rfl rfl rfl rfl)))
      pss_nil)
      (pss_one (ps_ret (pe_tup (pa_cons (pe_fnX G_read_number hr (takes_of rfl rfl rfl rfl) (pa_cons (pe_ix (ixK K ix_seq) (pv 1) pe_int (fun _ _ => rfl)) pa_nil)) (pa_cons (pe_fnX G_read_number hr (takes_of rfl rfl rfl rfl) (pa_cons (pe_ix (ixK K ix_seq) (pv 1) pe_int (fun _ _ => rfl)) pa_nil)) pa_nil))))))), ?_⟩
    refine r_start (σ' := [some (.str l), none]) rfl ?_
    walk_at "a"
    refine r_split (by decide +kernel) (by rw [sizeLine_eq]; omega) fun w1 H1 n1 s1 e1 => ?_
    have es := split_words l
    generalize Txt.split l (Str.ofString " ") = ss at e1 es
    have e1 : H1 w1 = some (.lst (ss.map V.str)) := e1
    have es : ss.map tl = TL.spl [32] 0 [] (tl l) := es
    walk_at "a"
    refine i_ncases (fun h => ?_) (fun h => ?_)
    · walk_at "a"
      refine x ?_ _ s1
      unfold rd
      rw [← es]
      refine rdW_len fun z => h ?_
      rw [List.length_map] at z
      omega
    · obtain ⟨a, b, rfl⟩ := two_strs (l := ss) (by omega)
      have hr : rd (tl l) = rdW [tl a, tl b] := by unfold rd; rw [← es]; rfl
      rw [← es] at hw
      have ha : a.length ≤ 640 := by rw [len_tl]; exact hw _ (by simp)
      have hb : b.length ≤ 640 := by rw [len_tl]; exact hw _ (by simp)
      walk_at "a"
      refine use_rnum ha (fun i H2 s2 hi => ?_) (fun hn H2 s2 => x (by rw [hr]; exact rdW_none (by simp [hn])) _ (s1.trans s2))
      walk_at "a"
      refine use_rnum hb (fun j H3 s3 hj => ?_) (fun hn H3 s3 => x (by rw [hr]; exact rdW_none (by simp [hn])) _ ((s1.trans s2).trans s3))
      walk_at "a"
      rename_i p4 H4 n4 s4 e4
      exact q (i, j) p4 H4 (((s1.trans s2).trans s3).trans s4) (by rw [hr]; exact rdW_two hi hj) (dp_of_pair (SqT.of e4))
end
theorem use_rsmp {C : Addr} {K : PySem.W.Frag} {H : Hp} {Q : VK} {E : XK} {l : Str} (hl : l.length ≤ 1000000) (hw : ∀ w ∈ TL.spl [32] 0 [] (tl l), w.length ≤ 640) (q : ∀ p a H', Same H H' → rd (tl l) = some p → Dp K H' (.ref a) (pairP p) → Q (.ref a) H')
    (x : rd (tl l) = none → ∀ H', Same H H' → E (.ref C) none H') : sp_rsmp C K [.str l] H Q E := ⟨l, rfl, hl, hw, q, x⟩
/-! a curve or not -/
theorem zip_all : ∀ c : Prs, ((c.zip (c.drop 1)).all fun pq => decide (pq.1.1 < pq.2.1)) = true ↔ UpC c
  | [] => by simp [UpC]
  | [p] => by simp [UpC]
  | p :: q :: r => by
    have ih := zip_all (q :: r)
    rw [show (p :: q :: r).drop 1 = q :: r from rfl, List.zip_cons_cons, List.all_cons, Bool.and_eq_true, decide_eq_true_eq]
    rw [show (q :: r).drop 1 = r from rfl] at ih
    rw [ih]
    constructor
    · rintro ⟨h1, h2⟩
      refine List.pairwise_cons.mpr ⟨fun x hx => ?_, h2⟩
      rcases List.mem_cons.mp hx with rfl | hx
      · exact h1
      · exact Int.lt_trans h1 ((List.pairwise_cons.mp h2).1 x hx)
    · intro h
      obtain ⟨h1, h2⟩ := List.pairwise_cons.mp h
      exact ⟨h1 q (List.mem_cons_self ..), h2⟩
theorem dpAll_bls {K : PySem.W.Frag} {H : Hp} : ∀ {vs : List V} {bs : List Bool}, DpAll K H vs (bs.map PyData.bool) → vs = bs.map V.bl
  | [], [], .nil => rfl
  | _ :: _, _ :: _, .cons h t => by
    cases h
    rw [dpAll_bls t]
    rfl
def sp_isc (K : PySem.W.Frag) : Sp := fun vs H Q _ => ∃ (v : V) (c : Prs), vs = [v] ∧ Dp K H v (prsD c) ∧ c.length ≤ 1000000 ∧ ∀ (b : Bool) H', Same H H' → (b = true ↔ UpC c) → Q (.bl b) H'
section
variable {P : Program} {w : World} {K : PySem.W.Frag} {mg : Str → Option Value} {base : Heap}
theorem ok_is_curve (B : Blt mg) (D : Def K mg "is_curve" s_is_curve ["thing"]) (G_is_sample : Fn P w K mg base 2 "is_sample" ["thing"] (sp_is_sample K)) :
    Fn P w K mg base 3 "is_curve" ["thing"] (sp_isc K) := by
  refine D.ok sc_is_curve (fun vs H Q E h => ?_) (fun f cdv A outer s H vs Q E hr h => ?_)
  · obtain ⟨v, c, rfl, hd, hl, q⟩ := h
    rfl
  · obtain ⟨v, c, rfl, hd, hl, q⟩ := h
    refine ⟨_, (pss_cons (ps_if (PW.pt (pw_or (pt_not (pt_val (pe_callB (crK K call_isi) rfl B.isinstance (by decide +kernel) (pa_cons (pv 0) (pa_cons (pe_bltn (v := .ty "tuple") rfl B.tuple (by decide +kernel) rfl) pa_nil))))) (pw_or1 (pt_not (pt_val (pe_callB (crK K (cr_all rfl)) rfl B.all (by decide +kernel) (pa_cons (pe_lc (own := [("one", 1)]) (g := gName 1) (tt := tYes) rfl sc_is_curve.nd (piK_tup K (pv 0)) (blkOk_by (N := ["thing", "one", "other"]) (sc := defScope s_is_curve) (by decide +kernel)) (fun _ _ _ _ _ => (pg_name (i := 1) sc_is_curve.nd rfl (Or.inl rfl))) (fun _ _ _ _ _ => pts_nil) (fun _ _ _ _ _ => (pe_fn G_is_sample hr (pa_cons (pv 1) pa_nil)))) pa_nil)))))))
      (pss_one (ps_ret pe_bl))
      pss_nil)
      (pss_one (ps_ret (pe_callB (crK K (cr_all rfl)) rfl B.all (by decide +kernel) (pa_cons (pe_lc (own := [("one", 1), ("other", 2)]) (g := gTup K 2 (gCons (gName 1) (gCons (gName 2) gNil))) (tt := tYes) rfl sc_is_curve.nd (piK_zip K B.zip (pa_cons (pv 0) (pa_cons (pe_slice (slK K sl_tupA) (pv 0) (po_some pe_int) po_none) pa_nil))) (blkOk_by (N := ["thing", "one", "other"]) (sc := defScope s_is_curve) (by decide +kernel)) (fun _ _ _ _ _ => (pgK_tup K (n := 2) rfl (pgs_cons (pg_name (i := 1) sc_is_curve.nd rfl (Or.inl rfl)) (pgs_cons (pg_name (i := 2) sc_is_curve.nd rfl (Or.inl rfl)) pgs_nil)))) (fun _ _ _ _ _ => pts_nil) (fun _ _ _ _ _ => (pe_cmpR op_lt (pe_ix (ixK K ix_seq) (pv 1) pe_int (fun _ _ => rfl)) (pe_ix (ixK K ix_seq) (pv 2) pe_int (fun _ _ => rfl)) (nomark _)))) pa_nil))))), ?_⟩
    refine r_start (σ' := [some (v), none, none]) rfl ?_
    obtain ⟨a, ws, rfl, ha, hw⟩ := dp_tup hd
    walk_at "a"
    refine lc_tupD ha hw (by omega) (fun _ => true) (fun _ => .bool true) (fun _ => rfl) (fun c x H2 S N hc s2 hx k1 k2 => ?_) (fun D H2 ys hD s2 e2 p2 => ?_)
    · refine r_gname ⟨wipe_one, ?_⟩
      walk_at "a"
      exact use_is_sample hx fun H3 s3 => k1 rfl _ _ s3 (.bl true)
    rw [Fp.filter_all] at p2
    walk_at "a"
    refine r_allT (SqL.of e2) (dpAll_trues p2) ?_
    walk_at "a"
    have ha2 := SqT.text (TExt.of_same s2) ha
    have hw2 := DpAll.same s2 _ _ hw
    rename_i p3 H3 s3 e3
    rw [show (1 : Int) = ((1 : Nat) : Int) from rfl, cutV_from] at e3
    have d3 : DpAll K H3 (ws.drop 1) ((c.drop 1).map pairP) := by
      rw [List.map_drop]
      exact dpAll_drop 1 (DpAll.same s3 _ _ hw2)
    refine r_zipT (SqT.text (TExt.of_same s3) ha2) e3 ?_
    refine lc_zipD (SqT.text (TExt.of_same s3) ha2) (DpAll.same s3 _ _ hw2) e3 d3 (by omega) (fun _ => true) (fun pq => .bool (decide (pq.1.1 < pq.2.1))) (fun _ => rfl) (fun pq T x y H4 S N hc4 s4 hT hx hy k1 k2 => ?_) (fun D H4 ys hD s4 e4 p4 => ?_)
    · obtain ⟨px, rfl, hpx⟩ := dp_pair hx
      obtain ⟨py, rfl, hpy⟩ := dp_pair hy
      walk_at "a"
      refine ⟨rfl, ?_⟩
      walk_at "a"
      exact k1 rfl _ _ (Same.refl _) (.bl _)
    · rw [Fp.filter_all, show ((c.zip (c.drop 1)).map fun pq => PyData.bool (decide (pq.1.1 < pq.2.1))) = ((c.zip (c.drop 1)).map fun pq => decide (pq.1.1 < pq.2.1)).map PyData.bool by rw [List.map_map]; rfl] at p4
      have ey4 := dpAll_bls p4
      rw [ey4] at e4
      walk_at "a"
      refine r_all (SqL.of e4) ?_
      refine q _ _ ((s2.trans s3).trans s4) ?_
      rw [List.all_map]
      exact zip_all c
end
theorem use_isc {K : PySem.W.Frag} {H : Hp} {Q : VK} {E : XK} {v : V} {c : Prs} (h : Dp K H v (prsD c)) (hl : c.length ≤ 1000000) (q : ∀ (b : Bool) H', Same H H' → (b = true ↔ UpC c) → Q (.bl b) H') : sp_isc K [v] H Q E := ⟨v, c, rfl, h, hl, q⟩
/-! a text or something else, read -/
structure OkT (T : Str) (M N : Nat) : Prop where
  run : Runs M (tl T)
  len : T.length ≤ N
/-- what is no text -/
inductive NoT (K : PySem.W.Frag) (H : Hp) : V → Prop where
  | dp {v : V} {d : PyData} (h : Dp K H v d) (n : isT "str" d = false) : NoT K H v
  | dk {a : Addr} {kvs : List (Key × V)} (h : H a = some (.dK kvs)) : NoT K H (.ref a)
def sp_rcv (C : Addr) (K : PySem.W.Frag) : Sp := fun vs H Q E => ∃ v : V, vs = [v] ∧
  ((∃ T : Str, v = .str T ∧ OkT T 640 200000 ∧ (∀ c a H', Same H H' → TextOf (tl T) c → c.length ≤ 200001 → Dp K H' (.ref a) (prsD c) → Q (.ref a) H') ∧ ((∀ c, ¬ TextOf (tl T) c) → ∀ H', Same H H' → E (.ref C) none H')) ∨
    (NoT K H v ∧ ∀ H', Same H H' → E (.ref C) none H'))
theorem getLast_map {α β : Type} (f : α → β) (l : List α) : (l.map f).getLast? = l.getLast?.map f := List.getLast?_map
theorem paired_rd {K : PySem.W.Frag} {H : Hp} : ∀ {ls : List Str} {ys : List V}, Paired (fun l y => ∃ p, rd (tl l) = some p ∧ Dp K H y (pairP p)) ls ys → ∃ c : Prs, Paired (fun l p => rd l = some p) (ls.map tl) c ∧ DpAll K H ys (c.map pairP) ∧ c.length = ls.length
  | _, _, .nil => ⟨[], .nil, .nil, rfl⟩
  | _, _, .cons ⟨p, h1, h2⟩ t => by
    obtain ⟨c, c1, c2, c3⟩ := paired_rd t
    exact ⟨p :: c, .cons h1 c1, .cons h2 c2, by simp [c3]⟩
section
variable {P : Program} {w : World} {K : PySem.W.Frag} {mg : Str → Option Value} {base : Heap}
theorem ok_read_curve (B : Blt mg) (D : Def K mg "read_curve" s_read_curve ["text"]) {E_NoText : Addr} (X_NoText : Exc K mg "NoText" E_NoText) (G_is_curve : Fn P w K mg base 3 "is_curve" ["thing"] (sp_isc K)) (G_read_sample : Fn P w K mg base 3 "read_sample" ["line"] (sp_rsmp E_NoText K)) :
    Fn P w K mg base 4 "read_curve" ["text"] (sp_rcv E_NoText K) := by
  refine D.okX sc_read_curve (fun vs H Q E h => ?_) (fun f cdv A outer s H vs Q E hr h => ?_)
  · obtain ⟨v, rfl, q⟩ := h
    rfl
  · obtain ⟨v, rfl, q⟩ := h
    refine ⟨_, (pss_cons (ps_if (pt_not (pt_val (pe_callB (crK K call_isi) rfl B.isinstance (by decide +kernel) (pa_cons (pv 0) (pa_cons (pe_bltn (v := .ty "str") rfl B.str (by decide +kernel) rfl) pa_nil)))))
      (pss_one (ps_rs X_NoText (takes_of rfl rfl rfl rfl)))
      pss_nil)
      (pss_cons (ps_set (i := 1) sc_read_curve.nd rfl (Or.inl rfl) (pe_splitU (pv 0) pe_str))
      (pss_cons (ps_if (pt_cmpR (opK K (o_ne hr.units)) (pe_ix (ixK K ix_seq) (pv 1) (pe_un un_neg pe_int) (fun _ _ => rfl)) pe_str (nomark _))
      (pss_one (ps_rs X_NoText (takes_of rfl rfl rfl rfl)))
      pss_nil)
      (pss_cons (ps_set (i := 2) sc_read_curve.nd rfl (Or.inl rfl) (pe_callTy (crK K c_tuple) rfl B.tuple (by decide +kernel) (pa_cons (pe_lcX (own := [("line", 3)]) (g := gName 3) (tt := tYes) (takes_of rfl rfl rfl rfl) rfl rfl rfl sc_read_curve.nd (piK_list K (pe_slice (slK K sl_list) (pv 1) po_none (po_some (pe_un un_neg pe_int)))) (blkOk_by (N := ["text", "lines", "curve", "line"]) (sc := defScope s_read_curve) (by decide +kernel)) (fun _ _ _ _ _ _ => (pg_name (i := 3) sc_read_curve.nd rfl (Or.inl rfl))) (fun _ _ _ _ _ _ => pts_nil) (fun _ _ _ _ _ _ ps => (pe_fnE G_read_sample hr (by decide) rfl ps (pa_cons (pv 3) pa_nil)))) pa_nil)))
      (pss_cons (ps_if (pt_not (pt_val (pe_fn G_is_curve hr (pa_cons (pv 2) pa_nil))))
      (pss_one (ps_rs X_NoText (takes_of rfl rfl rfl rfl)))
      pss_nil)
      (pss_one (ps_ret (pv 2)))))))), ?_⟩
    refine r_start (σ' := [some (v), none, none, none]) rfl ?_
    rcases q with ⟨T, rfl, ok, q, x⟩ | ⟨nt, x⟩
    rotate_left
    · walk_at "a"
      cases nt with
      | dp h n =>
        refine r_isi h (by decide) ?_
        rw [n]
        walk_at "a"
        exact x _ (Same.refl _)
      | dk h =>
        refine ⟨_, .ty "str", .type "dict", .type "str", false, rfl, .ty "str", .base (.dK h), kit_ty (kit_tab (by decide) (by decide)), ?_⟩
        walk_at "a"
        exact x _ (Same.refl _)
    obtain ⟨run, hl⟩ := ok
    walk_at "a"
    refine r_split (by decide +kernel) (by rw [sizeLine_eq]; omega) fun w1 H1 n1 s1 e1 => ?_
    have es := split_lines T
    generalize Txt.split T (Str.ofString "\n") = ss at e1 es
    have e1 : H1 w1 = some (.lst (ss.map V.str)) := e1
    have es : ss.map tl = TL.spl [10] 0 [] (tl T) := es
    have hne : ss ≠ [] := fun z => by rw [z] at es; exact spl_ne es.symm
    have hsl : ss.length ≤ T.length + 1 := by
      have h1 := szL_len (TL.spl [10] 0 [] (tl T))
      rw [szL_spl, ← es, List.length_map, ← len_tl] at h1
      simpa using h1
    obtain ⟨ini, las, rfl⟩ : ∃ ini las, ss = ini ++ [las] := ⟨ss.dropLast, ss.getLast hne, (List.dropLast_concat_getLast hne).symm⟩
    rw [List.length_append] at hsl
    rw [List.map_append] at e1 es
    have glast : (TL.spl [10] 0 [] (tl T)).getLast? = some (tl las) := by rw [← es]; simp
    have gdrop : (TL.spl [10] 0 [] (tl T)).dropLast = ini.map tl := by rw [← es]; simp
    have e1 : H1 w1 = some (.lst (ini.map V.str ++ [.str las])) := e1
    walk_at "a"
    refine r_ixl (SqL.of e1) (atI_last _ _) ?_
    walk_at "a"
    refine r_ne_s ?_
    by_cases hla : tl las = []
    rotate_left
    · rw [decide_eq_false (show ¬ las = Str.ofString "" from fun z => hla (str_empty.mp z))]
      walk_at "a"
      exact x (not_last (by rw [glast]; exact fun z => hla (Option.some.inj z))) _ s1
    rw [decide_eq_true (show las = Str.ofString "" from str_empty.mpr hla)]
    walk_at "a"
    rename_i p2 H2 n2 s2 e2
    rw [cutV_init] at e2
    have w : Wk (Itl K p2) ini.length (fun H => SqL K H p2 (ini.map V.str)) (fun i H x H' => H' = H ∧ (ini.map V.str)[i]? = some x) := by
      have w := wk_list (K := K) (a := p2) (xs := ini.map V.str)
      rwa [List.length_map] at w
    refine lc_gen (as := ini) (fun l v _ => v = .str l) w (fun i H2 v H' hi h => by
        obtain ⟨rfl, hx⟩ := h
        rw [List.getElem?_map] at hx
        obtain ⟨l, hl, rfl⟩ := Option.map_eq_some_iff.mp hx
        exact ⟨l, hl, Same.refl _, rfl⟩) (fun H' s => s.seq (SqL.of e2)) (by omega) (fun _ => true) (fun H l y => ∃ p, rd (tl l) = some p ∧ Dp K H y (pairP p)) (fun H H' c y e h => by
        obtain ⟨p, h1, h2⟩ := h
        exact ⟨p, h1, Dp.text e _ _ (imm_pair _) h2⟩) (fun l v H3 S N hml s3 hv k1 k2 => ?_) (fun D H3 ys hD s3 e3 p3 => ?_)
    · subst hv
      have ml : tl l ∈ TL.spl [10] 0 [] (tl T) := by rw [← es]; exact List.mem_append_left _ (List.mem_map.mpr ⟨l, hml, rfl⟩)
      refine r_gname ⟨wipe_one, ?_⟩
      walk_at "a"
      refine use_rsmp ?_ (fun w hw => run.word ml hw) (fun p a H4 s4 hp d4 => k1 rfl _ _ s4 ⟨p, hp, d4⟩) (fun hn H4 s4 => x (not_rd (by rw [gdrop]; exact List.mem_map.mpr ⟨l, hml, rfl⟩) hn) _ (((s1.trans s2).trans s3).trans s4))
      have h1 := szL_mem ml
      rw [szL_spl, ← len_tl, ← len_tl] at h1
      simp at h1
      omega
    rw [Fp.filter_all] at p3
    obtain ⟨c, c1, c2, c3⟩ := paired_rd p3
    walk_at "a"
    rename_i p4 H4 n4 s4 e4
    have d4 : Dp K H4 (.ref p4) (prsD c) := .tup (SqT.of e4) (DpAll.same s4 _ _ c2)
    have hr : rds (TL.spl [10] 0 [] (tl T)).dropLast = some c := by rw [gdrop]; exact rds_all c1
    refine use_isc d4 (by omega) fun b H5 s5 hb => ?_
    have s05 := (((s1.trans s2).trans s3).trans s4).trans s5
    cases b with
    | true =>
      walk_at "a"
      exact q c _ _ s05 ⟨by rw [glast, hla], hr, hb.mp rfl⟩ (by omega) (Dp.same s5 _ _ d4)
    | false =>
      walk_at "a"
      refine x (fun d z => ?_) _ s05
      have h1 := z.rd
      rw [hr] at h1
      cases h1
      exact Bool.noConfusion (hb.mpr z.up)
end
theorem use_rcv {C : Addr} {K : PySem.W.Frag} {H : Hp} {Q : VK} {E : XK} {T : Str} (ok : OkT T 640 200000) (q : ∀ c a H', Same H H' → TextOf (tl T) c → c.length ≤ 200001 → Dp K H' (.ref a) (prsD c) → Q (.ref a) H') (x : (∀ c, ¬ TextOf (tl T) c) → ∀ H', Same H H' → E (.ref C) none H') : sp_rcv C K [.str T] H Q E := ⟨_, rfl, .inl ⟨T, rfl, ok, q, x⟩⟩
/-! ### texts taken apart by the law -/
def ov : Option Int → V
  | none => .non
  | some i => .int i
theorem inV_none : ∀ l : List (Option Int), inV .non (l.map ov) = decide (none ∈ l)
  | [] => rfl
  | none :: l => by
    rw [decide_eq_true (by simp)]
    rfl
  | some i :: l => by
    have ih := inV_none l
    unfold inV at ih ⊢
    rw [List.map_cons, List.any_cons, ih]
    have : (none ∈ some i :: l) ↔ none ∈ l := by simp
    simp only [this]
    show (eqV (V.int i) V.non || decide (none ∈ l)) = decide (none ∈ l)
    rw [show eqV (V.int i) V.non = false from rfl]
    simp
theorem flat_ov (l : List (Option Int)) : (l.map ov).all flatV = true := by
  rw [List.all_map]
  exact List.all_eq_true.mpr fun o _ => by cases o <;> rfl
def sp_whole (K : PySem.W.Frag) : Sp := fun vs H Q _ => ∃ w : Str, vs = [.str w] ∧ w.length ≤ 640 ∧ ∀ H', Same H H' → Q (ov (wordOf (tl w))) H'
theorem filt_nil {l : List Nat} : (l.filter fun c => !digOk c) = [] ↔ l.all digOk = true := by
  rw [List.filter_eq_nil_iff, List.all_eq_true]
  exact ⟨fun h c hc => by simpa using h c hc, fun h c hc => by simpa using h c hc⟩
section
variable {P : Program} {w : World} {K : PySem.W.Frag} {mg : Str → Option Value} {base : Heap}
theorem ok_law_whole_of (B : Blt mg) (D : Def K mg "_law_whole_of" s_law_whole_of ["_law_word"]) :
    Fn P w K mg base 1 "_law_whole_of" ["_law_word"] (sp_whole K) := by
  refine D.ok sc_law_whole_of (fun vs H Q E h => ?_) (fun f cdv A outer s H vs Q E hr h => ?_)
  · obtain ⟨w', rfl, hl, q⟩ := h
    rfl
  · obtain ⟨w', rfl, hl, q⟩ := h
    refine ⟨_, (Evl.pss_cut (ps_set (i := 1) sc_law_whole_of.nd rfl (Or.inl rfl) (pe_ifExp (pt_cmpR (opK K (o_eq hr.units)) (pe_slice o_slS (pv 0) po_none (po_some pe_int)) pe_str (nomark _)) (pe_slice o_slS (pv 0) (po_some pe_int) po_none) (pv 0)))
      (pss_cons (ps_if (PW.pt (pw_or (pt_cmpR (opK K (o_eq hr.units)) (pv 1) pe_str (nomark _)) (pw_or1 (pt_cmpR (opK K (o_neNil hr.units)) (pe_lc (own := [("_law_sign", 2)]) (g := gName 2) (tt := _) rfl sc_law_whole_of.nd (pi_strU (pv 1)) (blkOk_by (N := ["_law_word", "_law_figures", "_law_sign"]) (sc := defScope s_law_whole_of) (by decide +kernel)) (fun _ _ _ _ _ => (pg_name (i := 2) sc_law_whole_of.nd rfl (Or.inl rfl))) (fun _ _ _ _ _ => pts_one (pt_cmpR o_notInS (pv 2) pe_str (by with_unfolding_all rfl))) (fun _ _ _ _ _ => (pv 2))) (pe_lst pa_nil) (nomark _)))))
      (pss_one (ps_ret pe_non))
      pss_nil)
      (pss_cons (ps_if (PW.pt (pw_and (pt_cmpR (opK K (o_eq hr.units)) (pe_ix (ixK K ix_seq) (pv 1) pe_int (fun _ _ => rfl)) pe_str (nomark _)) (pw_and1 (pt_cmpR (opK K (o_ne hr.units)) (pv 0) pe_str (nomark _)))))
      (pss_one (ps_ret pe_non))
      pss_nil)
      (pss_one (ps_ret (pe_callTy c_intS rfl B.int (by decide +kernel) (pa_cons (pv 0) pa_nil))))))), ?_⟩
    refine r_start (σ' := [some (.str w'), none, none]) rfl ?_
    refine r_cut (fun σ' H' => H' = H ∧ ∃ f : Str, σ' = [some (.str w'), some (.str f), none] ∧ tl f = figs (tl w') ∧ f.length ≤ 640) ?_ ?_
    · walk_at "a"
      refine r_slS (by rw [sizeLine_eq]; omega) ?_
      walk_at "a"
      refine r_eq_s ?_
      have t1 := tl_cut_to (w := w') (i := 1) (by decide)
      have t2 := tl_cut_from (w := w') (i := 1) (by decide)
      by_cases h : (tl w').take 1 = [45]
      · rw [decide_eq_true (show cutS w' none (some 1) = Str.ofString "-" from tl_inj (by rw [t1]; exact h.trans (by decide +kernel)))]
        walk_at "a"
        refine r_slS (by rw [sizeLine_eq]; omega) ?_
        walk_at "a"
        exact ⟨rfl, _, rfl, by rw [t2]; unfold figs; rw [if_pos h]; rfl, by rw [len_tl, t2, List.length_drop, ← len_tl]; omega⟩
      · rw [decide_eq_false (show ¬ cutS w' none (some 1) = Str.ofString "-" from fun z => h (by rw [← show tl (Str.ofString "-") = [45] by decide +kernel, ← z, t1]; rfl))]
        walk_at "a"
        exact ⟨rfl, _, rfl, by unfold figs; rw [if_neg h], hl⟩
    rintro σ' H' ⟨rfl, f, rfl, hf, hfl⟩
    walk_at "a"
    refine r_eq_s ?_
    by_cases hn : tl f = []
    · rw [decide_eq_true (show f = Str.ofString "" from str_empty.mpr hn)]
      walk_at "a"
      have q := q _ (Same.refl _)
      rw [num_nil (by rw [← hf]; exact hn)] at q
      exact q
    rw [decide_eq_false (show ¬ f = Str.ofString "" from fun z => hn (str_empty.mp z))]
    walk_at "a"
    refine r_istrU ?_
    walk_at "a"
    refine r_strW ?_
    refine lc_gen (as := tl f) (fun c v _ => v = .str ⟨#[c]⟩) (src := fun _ => True) (item := fun i H v H' => H' = H ∧ ∃ c, (tl f)[i]? = some c ∧ v = .str ⟨#[c]⟩) wk_str
      (fun i H2 v H' hi h => by obtain ⟨rfl, c, hc, rfl⟩ := h; exact ⟨c, hc, Same.refl _, rfl⟩) (fun _ _ => trivial) (by rw [← len_tl]; omega) (fun c => !digOk c) (fun _ c y => y = .str ⟨#[c]⟩) (fun _ _ _ _ _ h => h) (fun c v H2 S N hc s2 hv k1 k2 => ?_) (fun D H2 ys hD s2 e2 p2 => ?_)
    · subst hv
      refine r_gname ⟨wipe_one, ?_⟩
      walk_at "a"
      refine r_notInS ?_
      rw [tl_fig]
      by_cases z : c ∈ figN
      · rw [decide_eq_true z]
        walk_at "a"
        exact k2 (by rw [fig_iff.mp z]; rfl) _ (Same.refl _)
      · rw [decide_eq_false z]
        walk_at "a"
        refine k1 ?_ _ _ (Same.refl _) rfl
        cases h : digOk c with
        | true => exact absurd (fig_iff.mpr h) z
        | false => rfl
    have ey := paired_fun p2
    walk_at "a"
    rename_i p3 H3 n3 s3 e3
    cases ha : (tl f).all digOk with
    | false =>
      have : ys ≠ [] := fun z => by
        rw [z] at ey
        have := filt_nil.mp (List.map_eq_nil_iff.mp ey.symm)
        rw [ha] at this
        cases this
      rw [decide_eq_false this]
      walk_at "a"
      have q := q _ (s2.trans s3)
      rw [num_sign (by rw [← hf]; exact ha)] at q
      exact q
    | true =>
      have : ys = [] := by rw [ey, filt_nil.mpr ha]; rfl
      rw [decide_eq_true this]
      walk_at "a"
      have q := q _ (s2.trans s3)
      obtain ⟨c, r, e⟩ : ∃ c r, tl f = c :: r := by
        cases h : tl f with
        | nil => exact absurd h hn
        | cons c r => exact ⟨c, r, rfl⟩
      refine r_ixs (c := c) (by rw [sizeLine_eq]; omega) (by rw [show f.cps.toList = c :: r from e]; exact atI_nat (j := 0) rfl) ?_
      walk_at "a"
      refine r_eq_s ?_
      have e1 : (figs (tl w')).take 1 = [c] := by rw [← hf, e]; rfl
      have hn2 : figs (tl w') ≠ [] := by rw [← hf]; exact hn
      have ha2 : (figs (tl w')).all digOk = true := by rw [← hf]; exact ha
      by_cases h48 : c = 48
      · rw [decide_eq_true (show (⟨#[c]⟩ : Str) = Str.ofString "0" by rw [h48]; decide +kernel)]
        walk_at "a"
        refine r_ne_s ?_
        by_cases z : tl w' = [48]
        · rw [decide_eq_true (show w' = Str.ofString "0" from tl_inj (by rw [z]; decide +kernel))]
          walk_at "a"
          rw [num_ok hn2 ha2 (.inr z)] at q
          exact r_intW (int_word hn2 ha2 hl) hl q
        · rw [decide_eq_false (show ¬ w' = Str.ofString "0" from fun y => z (by rw [y]; decide +kernel))]
          walk_at "a"
          rw [num_zero (by rw [e1, h48]) z] at q
          exact q
      · rw [decide_eq_false (show ¬ (⟨#[c]⟩ : Str) = Str.ofString "0" by rw [show Str.ofString "0" = (⟨#[48]⟩ : Str) by decide +kernel, one_sign]; exact h48)]
        walk_at "a"
        rw [num_ok hn2 ha2 (.inl (by rw [e1]; simpa using h48))] at q
        exact r_intW (int_word hn2 ha2 hl) hl q
end
theorem use_whole {K : PySem.W.Frag} {H : Hp} {Q : VK} {E : XK} {w : Str} (hl : w.length ≤ 640) (q : ∀ H', Same H H' → Q (ov (wordOf (tl w))) H') : sp_whole K [.str w] H Q E := ⟨w, rfl, hl, q⟩
def sp_lcof (K : PySem.W.Frag) : Sp := fun vs H Q _ => ∃ T : Str, vs = [.str T] ∧ OkT T 640 200000 ∧ (∀ c a H', Same H H' → TextOf (tl T) c → Dp K H' (.ref a) (prsD c) → Q (.ref a) H') ∧ ((∀ c, ¬ TextOf (tl T) c) → ∀ H', Same H H' → Q .non H')
theorem up_snoc {c : Prs} {p q : Int × Int} (h : UpC (c ++ [p])) (l : p.1 < q.1) : UpC (c ++ [p] ++ [q]) := by
  refine List.pairwise_append.mpr ⟨h, List.pairwise_singleton _ _, fun x hx y hy => ?_⟩
  rw [List.mem_singleton.mp hy]
  rcases List.mem_append.mp hx with hx | hx
  · exact Int.lt_trans ((List.pairwise_append.mp h).2.2 x hx p (by simp)) l
  · rw [List.mem_singleton.mp hx]; exact l
theorem rds_snoc {a : List (List Nat)} {l : List Nat} {c : Prs} {p : Int × Int} (h : rds a = some c) (h2 : rd l = some p) : rds (a ++ [l]) = some (c ++ [p]) := rds_app h (by unfold rds; rw [h2]; rfl)
theorem raw_snoc {H : Hp} {p : Int × Int} : ∀ {d : Prs} {ws : List V}, RawP H ws (d ++ [p]) → ∃ wi a, ws = wi ++ [.ref a] ∧ H a = some (.tup [.int p.1, .int p.2])
  | [], _, .cons ⟨a, e, z⟩ .nil => ⟨[], a, by rw [e]; rfl, z⟩
  | q :: d, _, .cons _ t => by
    obtain ⟨wi, a, rfl, z⟩ := raw_snoc (d := d) t
    exact ⟨_ :: wi, a, rfl, z⟩
theorem rds_len : ∀ {ls : List (List Nat)} {c : Prs}, rds ls = some c → c.length = ls.length
  | [], c, h => by rw [← Option.some.inj h]; rfl
  | l :: r, c, h => by
    unfold rds at h
    cases hl : rd l with
    | none => rw [hl] at h; cases h
    | some p =>
      cases hr : rds r with
      | none => rw [hl, hr] at h; cases h
      | some c2 =>
        rw [hl, hr] at h
        rw [← Option.some.inj h, List.length_cons, List.length_cons, rds_len hr]
theorem prs_snoc {c : Prs} (h : c ≠ []) : ∃ d p, c = d ++ [p] := ⟨c.dropLast, c.getLast h, (List.dropLast_concat_getLast h).symm⟩
section
variable {P : Program} {w : World} {K : PySem.W.Frag} {mg : Str → Option Value} {base : Heap}
theorem ok_law_curve_of (B : Blt mg) (D : Def K mg "_law_curve_of" s_law_curve_of ["_law_text"]) (G_law_whole_of : Fn P w K mg base 1 "_law_whole_of" ["_law_word"] (sp_whole K)) :
    Fn P w K mg base 2 "_law_curve_of" ["_law_text"] (sp_lcof K) := by
  refine D.ok sc_law_curve_of (fun vs H Q E h => ?_) (fun f cdv A outer s H vs Q E hr h => ?_)
  · obtain ⟨T, rfl, ⟨run, hl⟩, q, x⟩ := h
    rfl
  · obtain ⟨T, rfl, ⟨run, hl⟩, q, x⟩ := h
    refine ⟨_, (pss_cons (ps_set (i := 1) sc_law_curve_of.nd rfl (Or.inl rfl) (pe_splitU (pv 0) pe_str))
      (pss_cons (ps_set (i := 2) sc_law_curve_of.nd rfl (Or.inl rfl) (pe_lst pa_nil))
      (pss_cons (ps_for PassesOwn.never rfl (piK_list K (pe_slice (slK K sl_list) (pv 1) po_none (po_some (pe_un un_neg pe_int)))) (pg_name (i := 3) sc_law_curve_of.nd rfl (Or.inl rfl))
      (pss_cons (ps_setLc (i := 4) (own := [("_law_word", 5)]) (g := gName 5) (tt := tYes) rfl sc_law_curve_of.nd rfl rfl (sw_true rfl rfl rfl (by decide +kernel)) (piK_list K (pe_splitU (pv 3) pe_str)) (blkOk_by (N := ["_law_text", "_law_lines", "_law_found", "_law_line", "_law_numbers", "_law_word"]) (sc := defScope s_law_curve_of) (by decide +kernel)) (fun _ _ _ _ _ => (pg_name (i := 5) sc_law_curve_of.nd rfl (Or.inl rfl))) (fun _ _ _ _ _ => pts_nil) (fun _ _ _ _ _ => (pe_fn G_law_whole_of hr (pa_cons (pv 5) pa_nil))))
      (pss_cons (ps_if (PW.pt (pw_or (pt_cmpR (opK K (o_ne hr.units)) (pe_callB (crK K c_len) rfl B.len (by decide +kernel) (pa_cons (pv 4) pa_nil)) pe_int (nomark _)) (pw_or (pt_cmpR (o_inSeq K) pe_non (pv 4) (by with_unfolding_all rfl)) (pw_or1 (PW.pt (pw_and (pt_cmpR (opK K (o_neNil hr.units)) (pv 2) (pe_lst pa_nil) (nomark _)) (pw_and1 (pt_cmpR op_ge (pe_ix (ixK K ix_seq) (pe_ix (ixK K ix_seq) (pv 2) (pe_un un_neg pe_int) (fun _ _ => rfl)) pe_int (fun _ _ => rfl)) (pe_ix (ixK K ix_seq) (pv 4) pe_int (fun _ _ => rfl)) (nomark _)))))))))
      (pss_one (ps_ret pe_non))
      pss_nil)
      (pss_one (ps_expr (peK_bm K PySem.F.plainAttrs_list PySem.F.slot_list_append PySem.F.type_list_append mt_append (pv 2) (pa_cons (pe_tup (pa_cons (pe_ix (ixK K ix_seq) (pv 4) pe_int (fun _ _ => rfl)) (pa_cons (pe_ix (ixK K ix_seq) (pv 4) pe_int (fun _ _ => rfl)) pa_nil))) pa_nil)))))))
      (pss_one (ps_ret (pe_ifExp (pt_cmpR (opK K (o_eq hr.units)) (pe_ix (ixK K ix_seq) (pv 1) (pe_un un_neg pe_int) (fun _ _ => rfl)) pe_str (nomark _)) (pe_callTy (crK K c_tuple) rfl B.tuple (by decide +kernel) (pa_cons (pv 2) pa_nil)) pe_non)))))), ?_⟩
    refine r_start (σ' := [some (.str T), none, none, none, none, none]) rfl ?_
    walk_at "a"
    refine r_split (by decide +kernel) (by rw [sizeLine_eq]; omega) fun w1 H1 n1 s1 e1 => ?_
    have es := split_lines T
    generalize Txt.split T (Str.ofString "\n") = ss at e1 es
    have e1 : H1 w1 = some (.lst (ss.map V.str)) := e1
    have es : ss.map tl = TL.spl [10] 0 [] (tl T) := es
    have hne : ss ≠ [] := fun z => by rw [z] at es; exact spl_ne es.symm
    have hsl : ss.length ≤ T.length + 1 := by
      have h1 := szL_len (TL.spl [10] 0 [] (tl T))
      rw [szL_spl, ← es, List.length_map, ← len_tl] at h1
      simpa using h1
    obtain ⟨ini, las, rfl⟩ : ∃ ini las, ss = ini ++ [las] := ⟨ss.dropLast, ss.getLast hne, (List.dropLast_concat_getLast hne).symm⟩
    rw [List.length_append] at hsl
    rw [List.map_append] at e1 es
    have glast : (TL.spl [10] 0 [] (tl T)).getLast? = some (tl las) := by rw [← es]; simp
    have gdrop : (TL.spl [10] 0 [] (tl T)).dropLast = ini.map tl := by rw [← es]; simp
    have e1 : H1 w1 = some (.lst (ini.map V.str ++ [.str las])) := e1
    walk_at "a"
    rename_i fa H2 n2 s2 e2 p3 H3 n3 s3 e3
    rw [cutV_init] at e3
    refine for_wk wk_list (fun i σ H' => (∃ v1 v2 v3 : Option V, σ = [some (.str T), some (.ref w1), some (.ref fa), v1, v2, v3]) ∧ Same H H' ∧ H' w1 = some (.lst (ini.map V.str ++ [.str las])) ∧ H' p3 = some (.lst (ini.map V.str)) ∧ ∃ (ws : List V) (c : Prs), H' fa = some (.lst ws) ∧ RawP H' ws c ∧ rds ((ini.take i).map tl) = some c ∧ UpC c)
      ⟨⟨_, _, _, rfl⟩, (s1.trans s2).trans s3, s3 _ _ (s2 _ _ e1), e3, [], [], s3 _ _ e2, .nil, rfl, .nil⟩ (fun i σ H' _ p => SqL.of p.2.2.2.1) ?_ ?_
    · rintro i y σ H5 H5' hi ⟨⟨v1, v2, v3, rfl⟩, s5, w5, q5, ws, c, e5, r5, hr, up⟩ ⟨rfl, hy⟩
      rw [List.getElem?_map] at hy
      obtain ⟨l, hl2, rfl⟩ := Option.map_eq_some_iff.mp hy
      have ml : tl l ∈ TL.spl [10] 0 [] (tl T) := by rw [← es]; exact List.mem_append_left _ (List.mem_map.mpr ⟨l, List.mem_of_getElem? hl2, rfl⟩)
      have dl : tl l ∈ (TL.spl [10] 0 [] (tl T)).dropLast := by rw [gdrop]; exact List.mem_map.mpr ⟨l, List.mem_of_getElem? hl2, rfl⟩
      have ll : l.length ≤ T.length := by
        have h1 := szL_mem ml
        rw [szL_spl, ← len_tl, ← len_tl] at h1
        simp at h1
        omega
      have fresh : ∀ {H' : Hp}, Same H5' H' → Same H H' := fun s => s5.trans s
      walk_at "a"
      refine r_split (by decide +kernel) (by rw [sizeLine_eq]; omega) fun w6 H6 n6 s6 e6 => ?_
      have ew := split_words l
      generalize Txt.split l (Str.ofString " ") = ww at e6 ew
      have e6 : H6 w6 = some (.lst (ww.map V.str)) := e6
      have ew : ww.map tl = TL.spl [32] 0 [] (tl l) := ew
      have hwl : ww.length ≤ l.length + 1 := by
        have h1 := szL_len (TL.spl [32] 0 [] (tl l))
        rw [szL_spl, ← ew, List.length_map, ← len_tl] at h1
        simpa using h1
      have w : Wk (Itl K w6) ww.length (fun H => SqL K H w6 (ww.map V.str)) (fun i H x H' => H' = H ∧ (ww.map V.str)[i]? = some x) := by
        have w := wk_list (K := K) (a := w6) (xs := ww.map V.str)
        rwa [List.length_map] at w
      refine r_wl (SqL.of e6) ?_
      refine lc_gen (as := ww) (fun l v _ => v = .str l) w (fun i H2 v H' hi h => by
        obtain ⟨rfl, hx⟩ := h
        rw [List.getElem?_map] at hx
        obtain ⟨l, hl, rfl⟩ := Option.map_eq_some_iff.mp hx
        exact ⟨l, hl, Same.refl _, rfl⟩) (fun H' s => s.seq (SqL.of e6)) (by omega) (fun _ => true) (fun _ l y => y = ov (wordOf (tl l))) (fun _ _ _ _ _ h => h) (fun l v H7 S N hml s7 hv k1 k2 => ?_) (fun D H7 ys hD s7 e7 p7 => ?_)
      · subst hv
        refine r_gname ⟨wipe_one, ?_⟩
        walk_at "a"
        exact use_whole (by rw [len_tl]; exact run.word ml (by rw [← ew]; exact List.mem_map.mpr ⟨_, hml, rfl⟩)) fun H8 s8 => k1 rfl _ _ s8 rfl
      rw [Fp.filter_all] at p7
      have ey := paired_fun p7
      have ey2 : ys = ((ww.map tl).map wordOf).map ov := by rw [ey, List.map_map, List.map_map]; rfl
      have hyl : ys.length = ww.length := by rw [ey, List.length_map]
      have bad : rd (tl l) = none → Q .non H7 := fun h => x (not_rd dl h) _ (fresh (s6.trans s7))
      walk_at "a"
      refine i_ncases (fun h => ?_) (fun h => ?_)
      · walk_at "a"
        refine bad ?_
        unfold rd
        rw [← ew]
        refine rdW_len fun z => h ?_
        rw [List.length_map] at z
        omega
      obtain ⟨u, v, rfl⟩ := two_strs (l := ww) (by omega)
      have hrd : rd (tl l) = rdW [tl u, tl v] := by unfold rd; rw [← ew]; rfl
      walk_at "a"
      refine ⟨D, ys, rfl, .inl (SqL.of e7), rfl, by rw [ey2]; exact flat_ov _, ?_⟩
      rw [show (if false = true then !inV V.non ys else inV V.non ys) = inV V.non ys from rfl, ey2, inV_none]
      by_cases hin : none ∈ ([u, v].map tl).map wordOf
      · rw [decide_eq_true hin]
        walk_at "a"
        exact bad (by rw [hrd]; exact rdW_none hin)
      rw [decide_eq_false hin]
      obtain ⟨i1, h1⟩ : ∃ i, wordOf (tl u) = some i := by
        cases h : wordOf (tl u) with
        | none => exact absurd (by simp [h]) hin
        | some i => exact ⟨i, rfl⟩
      obtain ⟨i2, h2⟩ : ∃ i, wordOf (tl v) = some i := by
        cases h : wordOf (tl v) with
        | none => exact absurd (by simp [h]) hin
        | some i => exact ⟨i, rfl⟩
      have hrd2 : rd (tl l) = some (i1, i2) := by rw [hrd]; exact rdW_two h1 h2
      have e7' : H7 D = some (.lst [.int i1, .int i2]) := by
        rw [e7, ey2]
        simp [h1, h2, ov]
      have e57 := (s6.trans s7) _ _ e5
      have r57 := r5.same (s6.trans s7)
      have htake : ini.take (i + 1) = ini.take i ++ [l] := take_snoc hl2
      have w7 := (s6.trans s7) _ _ w5
      have q7 := (s6.trans s7) _ _ q5
      have nf : H fa = none := by
        cases z : H fa with
        | none => rfl
        | some o => rw [s1 _ _ z] at n2; cases n2
      have hfw : fa ≠ w1 := ne_of_none e1 n2 |> Ne.symm
      have hfp : fa ≠ p3 := ne_of_none e2 n3
      have grow : ∀ {H8 : Hp}, Same H7 H8 → (∀ hu : UpC (c ++ [(i1, i2)]), ∀ a, H8 a = some (.tup [.int i1, .int i2]) → ∀ H9, Keep (At fa) H8 H9 → H9 fa = some (.lst (ws ++ [.ref a])) →
          Same H H9 ∧ H9 w1 = some (.lst (ini.map V.str ++ [.str las])) ∧ H9 p3 = some (.lst (ini.map V.str)) ∧ ∃ (ws : List V) (c : Prs), H9 fa = some (.lst ws) ∧ RawP H9 ws c ∧ rds ((ini.take (i + 1)).map tl) = some c ∧ UpC c) := fun {H8} s8 hu a ha H9 k9 e9 => by
        have hm : ∀ b, At fa b → Mut (H8 b) := fun b hb => by rw [show b = fa from hb, s8 _ _ e57]; trivial
        refine ⟨same_at (fresh ((s6.trans s7).trans s8)) nf k9, k9 _ _ (s8 _ _ w7) hfw.symm, k9 _ _ (s8 _ _ q7) hfp.symm, _, _, e9, ((r57.same s8).keep k9 hm).snoc ⟨a, rfl, k9 _ _ ha fun z => ?_⟩, by rw [htake, List.map_append]; exact rds_snoc hr hrd2, hu⟩
        have := s8 _ _ e57
        rw [← show a = fa from z, ha] at this
        cases this
      clear e7
      have hwc : ws.length = c.length := r57.len
      have hcl : c.length ≤ 200001 := by have := rds_len hr; rw [List.length_map, List.length_take] at this; omega
      walk_at "a"
      rename_i p8 H8 n8 s8 e8
      by_cases hc : ws = []
      · subst hc
        have hc0 : c = [] := List.length_eq_zero_iff.mp hwc.symm
        subst hc0
        rw [decide_eq_true rfl]
        walk_at "a"
        refine r_bml (SqL.of (s8 _ _ e57)) ?_
        walk_at "a"
        rename_i p9 H9 n9 s9 e9
        have e59 := s9 _ _ (s8 _ _ e57)
        refine r_append e59 (by rw [sizeLine_eq]; simp) fun H10 k10 e10 => ?_
        walk_at "a"
        exact ⟨⟨_, _, _, rfl⟩, grow (s8.trans s9) (List.pairwise_singleton _ _) p9 e9 H10 k10 e10⟩
      · rw [decide_eq_false hc]
        obtain ⟨d, p, rfl⟩ := prs_snoc (c := c) fun z => hc (List.length_eq_zero_iff.mp (by rw [hwc, z]; rfl))
        obtain ⟨wi, pa, rfl, hpa⟩ := raw_snoc r57
        have hpa8 := s8 _ _ hpa
        have e58 := s8 _ _ e57
        have e78 := s8 _ _ e7'
        walk_at "a"
        refine r_ixl (SqL.of e58) (atI_last _ _) ?_
        walk_at "a"
        refine i_cases (fun hb => ?_) (fun hb => ?_)
        · walk_at "a"
          refine x (fun c' => not_rise (a := (ini.take i).map tl) (l := tl l) (b := (ini.drop (i + 1)).map tl) ?_ hr hrd2 hb c') _ (fresh ((s6.trans s7).trans s8))
          rw [gdrop, ← List.map_cons, ← List.map_append]
          congr 1
          conv => lhs; rw [← List.take_append_drop i ini]
          obtain ⟨li, ei⟩ := List.getElem?_eq_some_iff.mp hl2
          rw [List.drop_eq_getElem_cons li, ei]
        · walk_at "a"
          refine r_bml (SqL.of e58) ?_
          walk_at "a"
          rename_i p9 H9 n9 s9 e9
          have e59 := s9 _ _ e58
          refine r_append e59 (by rw [sizeLine_eq]; omega) fun H10 k10 e10 => ?_
          walk_at "a"
          exact ⟨⟨_, _, _, rfl⟩, grow (s8.trans s9) (up_snoc up (by show p.1 < i1; omega)) p9 e9 H10 k10 e10⟩
    · rintro σ H5 ⟨⟨v1, v2, v3, rfl⟩, s5, w5, q5, ws, c, e5, r5, hr, up⟩
      walk_at "a"
      refine r_ixl (SqL.of w5) (atI_last _ _) ?_
      walk_at "a"
      refine r_eq_s ?_
      by_cases hla : tl las = []
      · rw [decide_eq_true (show las = Str.ofString "" from str_empty.mpr hla)]
        walk_at "a"
        rename_i p6 H6 n6 s6 e6
        rw [List.length_map, List.take_length] at hr
        exact q c _ _ (s5.trans s6) ⟨by rw [glast, hla], by rw [gdrop, hr], up⟩ (.tup (SqT.of e6) (r5.same s6).dp)
      · rw [decide_eq_false (show ¬ las = Str.ofString "" from fun z => hla (str_empty.mp z))]
        walk_at "a"
        exact x (not_last (by rw [glast]; exact fun z => hla (Option.some.inj z))) _ s5
end
theorem use_lcof {K : PySem.W.Frag} {H : Hp} {Q : VK} {E : XK} {T : Str} (ok : OkT T 640 200000) (q : ∀ c a H', Same H H' → TextOf (tl T) c → Dp K H' (.ref a) (prsD c) → Q (.ref a) H') (x : (∀ c, ¬ TextOf (tl T) c) → ∀ H', Same H H' → Q .non H') : sp_lcof K [.str T] H Q E := ⟨T, rfl, ok, q, x⟩
/-! read, refused -/
def sp_lread (K : PySem.W.Frag) : Sp := fun vs H Q _ => ∃ v : V, vs = [v] ∧
  ((∃ T : Str, v = .str T ∧ OkT T 640 200000 ∧ (∀ c a p H', Same H H' → TextOf (tl T) c → H' p = some (.lst [.ref a]) → Dp K H' (.ref a) (prsD c) → Q (.ref p) H') ∧ ((∀ c, ¬ TextOf (tl T) c) → ∀ p H', Same H H' → H' p = some (.lst []) → Q (.ref p) H')) ∨
    (NoT K H v ∧ ∀ p H', Same H H' → H' p = some (.lst []) → Q (.ref p) H'))
section
variable {P : Program} {w : World} {K : PySem.W.Frag} {mg : Str → Option Value} {base : Heap}
theorem ok_law_read (B : Blt mg) (D : Def K mg "_law_read" s_law_read ["_law_thing"]) {E_FourPointsError : Addr} (X_FourPointsError : Exc K mg "FourPointsError" E_FourPointsError) {E_NoColumn : Addr} (X_NoColumn : Exc K mg "NoColumn" E_NoColumn) {E_NotHalf : Addr} (X_NotHalf : Exc K mg "NotHalf" E_NotHalf) {E_OutOfTimes : Addr} (X_OutOfTimes : Exc K mg "OutOfTimes" E_OutOfTimes) {E_NoSample : Addr} (X_NoSample : Exc K mg "NoSample" E_NoSample) {E_NoWatch : Addr} (X_NoWatch : Exc K mg "NoWatch" E_NoWatch) {E_NoName : Addr} (X_NoName : Exc K mg "NoName" E_NoName) {E_NotApart : Addr} (X_NotApart : Exc K mg "NotApart" E_NotApart) {E_NoText : Addr} (X_NoText : Exc K mg "NoText" E_NoText) (Y_NoText : ExcC K E_NoText) (W_NoText_FourPointsError : PySem.W.kitOne K (.ref E_NoText) (.ref E_FourPointsError) = some true) (Z_NoText_FourPointsError : PySem.W.exmOne K (.ref E_NoText) (.ref E_FourPointsError) = some true) (W_NoText_NoColumn : PySem.W.kitOne K (.ref E_NoText) (.ref E_NoColumn) = some false) (Z_NoText_NoColumn : PySem.W.exmOne K (.ref E_NoText) (.ref E_NoColumn) = some false) (W_NoText_NotHalf : PySem.W.kitOne K (.ref E_NoText) (.ref E_NotHalf) = some false) (Z_NoText_NotHalf : PySem.W.exmOne K (.ref E_NoText) (.ref E_NotHalf) = some false) (W_NoText_OutOfTimes : PySem.W.kitOne K (.ref E_NoText) (.ref E_OutOfTimes) = some false) (Z_NoText_OutOfTimes : PySem.W.exmOne K (.ref E_NoText) (.ref E_OutOfTimes) = some false) (W_NoText_NoSample : PySem.W.kitOne K (.ref E_NoText) (.ref E_NoSample) = some false) (Z_NoText_NoSample : PySem.W.exmOne K (.ref E_NoText) (.ref E_NoSample) = some false) (W_NoText_NoWatch : PySem.W.kitOne K (.ref E_NoText) (.ref E_NoWatch) = some false) (Z_NoText_NoWatch : PySem.W.exmOne K (.ref E_NoText) (.ref E_NoWatch) = some false) (W_NoText_NoName : PySem.W.kitOne K (.ref E_NoText) (.ref E_NoName) = some false) (Z_NoText_NoName : PySem.W.exmOne K (.ref E_NoText) (.ref E_NoName) = some false) (W_NoText_NotApart : PySem.W.kitOne K (.ref E_NoText) (.ref E_NotApart) = some false) (Z_NoText_NotApart : PySem.W.exmOne K (.ref E_NoText) (.ref E_NotApart) = some false) (W_NoText_NoText : PySem.W.kitOne K (.ref E_NoText) (.ref E_NoText) = some true) (Z_NoText_NoText : PySem.W.exmOne K (.ref E_NoText) (.ref E_NoText) = some true) (V_NoText : PySem.W.kitOne K (.ref E_NoText) (.type "ValueError") = some true) (G_read_curve : Fn P w K mg base 4 "read_curve" ["text"] (sp_rcv E_NoText K)) :
    Fn P w K mg base 5 "_law_read" ["_law_thing"] (sp_lread K) := by
  refine D.ok sc_law_read (fun vs H Q E h => ?_) (fun f cdv A outer s H vs Q E hr h => ?_)
  · obtain ⟨v, rfl, q⟩ := h
    rfl
  · obtain ⟨v, rfl, q⟩ := h
    refine ⟨_, (pss_cons (ps_set (i := 1) sc_law_read.nd rfl (Or.inl rfl) pe_non)
      (pss_cons (ps_tryAs (K := K) (i := 2) rfl rfl rfl sc_law_read.nd rfl rfl ⟨rfl, by decide, .inl X_FourPointsError.g⟩ (fun W pn xe tk => (pss_one (ps_set (i := 1) sc_law_read.nd rfl (Or.inl rfl) (pe_lst (pa_cons (pe_fnS G_read_curve hr (by decide) rfl (fun σ => passAt tk σ) (pa_cons (pv 0) pa_nil)) pa_nil)))))
      (fun a oe cls d pn hz hf => (pss_cons (ps_set (i := 3) sc_law_read.nd rfl (Or.inl rfl) (pe_callB (c_isEAK K hz hf) rfl B.isinstance (by decide +kernel) (pa_cons (pv 2) (pa_cons (pe_tup (pa_cons (pe_glob (v := .ref E_NoColumn) rfl X_NoColumn.g rfl) (pa_cons (pe_glob (v := .ref E_NotHalf) rfl X_NotHalf.g rfl) (pa_cons (pe_glob (v := .ref E_OutOfTimes) rfl X_OutOfTimes.g rfl) (pa_cons (pe_glob (v := .ref E_NoSample) rfl X_NoSample.g rfl) (pa_cons (pe_glob (v := .ref E_NoWatch) rfl X_NoWatch.g rfl) (pa_cons (pe_glob (v := .ref E_NoName) rfl X_NoName.g rfl) (pa_cons (pe_glob (v := .ref E_NotApart) rfl X_NotApart.g rfl) pa_nil)))))))) pa_nil))))
      (pss_one (ps_if (PW.pt (pw_and (pt_val (pe_callB (c_isEK K hz hf) rfl B.isinstance (by decide +kernel) (pa_cons (pv 2) (pa_cons (pe_glob (v := .ref E_NoText) rfl X_NoText.g rfl) pa_nil)))) (pw_and (pt_val (pe_callB (c_isEK K hz hf) rfl B.isinstance (by decide +kernel) (pa_cons (pv 2) (pa_cons (pe_bltn (v := .ty "ValueError") rfl B.ValueError (by decide +kernel) rfl) pa_nil)))) (pw_and1 (pt_not (pt_val (pv 3)))))))
      (pss_one (ps_set (i := 1) sc_law_read.nd rfl (Or.inl rfl) (pe_lst pa_nil)))
      pss_nil)))))
      (pss_one (ps_ret (pv 1))))), ?_⟩
    refine r_start (σ' := [some (v), none, none, none]) rfl ?_
    rcases q with ⟨T, rfl, ok, q, x⟩ | ⟨nt, x⟩
    · walk_at "a"
      refine use_rcv ok (fun c a H1 s1 hc _ d1 => ?_) (fun hn H1 s1 => ?_)
      · walk_at "a"
        rename_i p2 H2 n2 s2 e2
        exact q c a p2 H2 (s1.trans s2) hc e2 (Dp.same s2 _ _ d1)
      · refine r_wAs Z_NoText_FourPointsError fun e he => ?_
        walk_at "a"
        rename_i p2 H2 n2 s2 e2
        refine r_isEA (Ts := [E_NoColumn, E_NotHalf, E_OutOfTimes, E_NoSample, E_NoWatch, E_NoName, E_NotApart]) Y_NoText e2 (.cons W_NoText_NoColumn (.cons W_NoText_NotHalf (.cons W_NoText_OutOfTimes (.cons W_NoText_NoSample (.cons W_NoText_NoWatch (.cons W_NoText_NoName (.cons W_NoText_NotApart .nil))))))) ?_
        walk_at "a"
        refine r_isE Y_NoText W_NoText_NoText ?_
        walk_at "a"
        refine r_isET Y_NoText V_NoText ?_
        walk_at "a"
        rename_i p3 H3 n3 s3 e3
        exact x hn p3 H3 ((s1.trans s2).trans s3) e3
    · walk_at "a"
      refine ⟨_, rfl, .inr ⟨nt, fun H1 s1 => ?_⟩⟩
      refine r_wAs Z_NoText_FourPointsError fun e he => ?_
      walk_at "a"
      rename_i p2 H2 n2 s2 e2
      refine r_isEA (Ts := [E_NoColumn, E_NotHalf, E_OutOfTimes, E_NoSample, E_NoWatch, E_NoName, E_NotApart]) Y_NoText e2 (.cons W_NoText_NoColumn (.cons W_NoText_NotHalf (.cons W_NoText_OutOfTimes (.cons W_NoText_NoSample (.cons W_NoText_NoWatch (.cons W_NoText_NoName (.cons W_NoText_NotApart .nil))))))) ?_
      walk_at "a"
      refine r_isE Y_NoText W_NoText_NoText ?_
      walk_at "a"
      refine r_isET Y_NoText V_NoText ?_
      walk_at "a"
      rename_i p3 H3 n3 s3 e3
      exact x p3 H3 ((s1.trans s2).trans s3) e3
end
theorem use_lread {K : PySem.W.Frag} {H : Hp} {Q : VK} {E : XK} {T : Str} (ok : OkT T 640 200000) (q : ∀ c a p H', Same H H' → TextOf (tl T) c → H' p = some (.lst [.ref a]) → Dp K H' (.ref a) (prsD c) → Q (.ref p) H') (x : (∀ c, ¬ TextOf (tl T) c) → ∀ p H', Same H H' → H' p = some (.lst []) → Q (.ref p) H') : sp_lread K [.str T] H Q E := ⟨_, rfl, .inl ⟨T, rfl, ok, q, x⟩⟩
theorem use_lread_no {K : PySem.W.Frag} {H : Hp} {Q : VK} {E : XK} {v : V} (n : NoT K H v) (x : ∀ p H', Same H H' → H' p = some (.lst []) → Q (.ref p) H') : sp_lread K [v] H Q E := ⟨_, rfl, .inr ⟨n, x⟩⟩
/-! right: read as it is, or refused -/
def sp_right (K : PySem.W.Frag) : Sp := fun vs H Q _ => ∃ T : Str, vs = [.str T] ∧ OkT T 640 200000 ∧ ∀ H', Same H H' → Q (.bl true) H'
theorem isT_tup (ds : List PyData) : isT "tuple" (.tuple ds) = true := show isK "tuple" "tuple" = true by decide +kernel
section
variable {P : Program} {w : World} {K : PySem.W.Frag} {mg : Str → Option Value} {base : Heap}
theorem ok_law_right (B : Blt mg) (D : Def K mg "_law_right" s_law_right ["_law_text"]) (G_law_curve_of : Fn P w K mg base 2 "_law_curve_of" ["_law_text"] (sp_lcof K)) (G_law_read : Fn P w K mg base 5 "_law_read" ["_law_thing"] (sp_lread K)) :
    Fn P w K mg base 6 "_law_right" ["_law_text"] (sp_right K) := by
  refine D.ok sc_law_right (fun vs H Q E h => ?_) (fun f cdv A outer s H vs Q E hr h => ?_)
  · obtain ⟨T, rfl, ok, q⟩ := h
    rfl
  · obtain ⟨T, rfl, ok, q⟩ := h
    refine ⟨_, (pss_cons (ps_set (i := 1) sc_law_right.nd rfl (Or.inl rfl) (pe_fn G_law_curve_of hr (pa_cons (pv 0) pa_nil)))
      (pss_cons (ps_set (i := 2) sc_law_right.nd rfl (Or.inl rfl) (pe_fn G_law_read hr (pa_cons (pv 0) pa_nil)))
      (pss_cons (ps_if (pt_cmpR o_isN (pv 1) pe_non (nomark _))
      (pss_one (ps_ret (pe_cmpR (opK K (o_eqNil hr.units)) (pv 2) (pe_lst pa_nil) (nomark _))))
      pss_nil)
      (pss_one (ps_ret (pe_and (pe_cmpR (opK K (o_eq hr.units)) (pv 2) (pe_lst (pa_cons (pv 1) pa_nil)) (nomark _)) (pe_one (pe_callB (crK K call_isi) rfl B.isinstance (by decide +kernel) (pa_cons (pe_ix (ixK K ix_seq) (pv 2) pe_int (fun _ _ => rfl)) (pa_cons (pe_bltn (v := .ty "tuple") rfl B.tuple (by decide +kernel) rfl) pa_nil)))))))))), ?_⟩
    refine r_start (σ' := [some (.str T), none, none]) rfl ?_
    walk_at "a"
    by_cases hc : ∃ c, TextOf (tl T) c
    · refine use_lcof ok (fun c a H1 s1 tc d1 => ?_) (fun hn => absurd hc (fun ⟨c, h⟩ => hn c h))
      walk_at "a"
      refine use_lread ok (fun c2 b p H2 s2 tc2 e2 d2 => ?_) (fun hn => absurd hc (fun ⟨c, h⟩ => hn c h))
      have := tc.uniq tc2
      subst this
      have d12 := Dp.same s2 _ _ d1
      walk_at "a"
      rename_i p3 H3 n3 s3 e3
      have d33 := Dp.same s3 _ _ d2
      have sh : SeqAt.shaped (.list [prsD c]) = true := (Shp.list (n := 2) (by simpa using shp_prs c)).ok
      refine r_eq_d (d := .list [prsD c]) (e := .list [prsD c]) (.lst (SqL.of (s3 _ _ e2)) (.cons d33 .nil)) (.lst (SqL.of e3) (.cons (Dp.same s3 _ _ d12) .nil)) sh sh ?_
      rw [eqv_same sh]
      have e23 := s3 _ _ e2
      walk_at "a"
      refine r_isi d33 (by decide) ?_
      rw [show isT "tuple" (prsD c) = true from isT_tup _]
      exact q _ ((s1.trans s2).trans s3)
    · have hn : ∀ c, ¬ TextOf (tl T) c := fun c h => hc ⟨c, h⟩
      refine use_lcof ok (fun c a H1 s1 tc d1 => absurd tc (hn c)) (fun _ H1 s1 => ?_)
      walk_at "a"
      refine use_lread ok (fun c2 b p H2 s2 tc2 e2 d2 => absurd tc2 (hn c2)) (fun _ p H2 s2 e2 => ?_)
      walk_at "a"
      rename_i p3 H3 n3 s3 e3
      exact q _ ((s1.trans s2).trans s3)
end
theorem use_right {K : PySem.W.Frag} {H : Hp} {Q : VK} {E : XK} {T : Str} (ok : OkT T 640 200000) (q : ∀ H', Same H H' → Q (.bl true) H') : sp_right K [.str T] H Q E := ⟨T, rfl, ok, q⟩
/-! spoilt -/
def sp_spoilt (K : PySem.W.Frag) : Sp := fun vs H Q _ => ∃ (p : Addr) (T : Str) (M N : Nat), vs = [.ref p, .str T] ∧ Pot H p ∧ OkT T M N ∧ N ≤ 200000 ∧ ∀ (T' : Str) (H' : Hp), Keep (At p) H H' → Pot H' p → OkT T' (2 * M + 1) (3 * N + 3) → Q (.str T') H'
theorem ok_cut {t m : List Nat} {M N n k : Nat} (h : Runs M t) (hl : t.length ≤ N) (hm : m.length ≤ 1) (hk : n ≤ k) : Runs (2 * M + 1) (t.take n ++ m ++ t.drop k) ∧ (t.take n ++ m ++ t.drop k).length ≤ 3 * N + 3 := by
  refine ⟨?_, ?_⟩
  · have h1 : Runs M (t.take n) := h.sub (x := []) (y := t.drop n) (by simp)
    have h2 : Runs M (t.drop k) := h.sub (x := t.take k) (y := []) (by simp)
    exact ((h1.app (Runs.short hm)).app h2).mono (by omega)
  · simp only [List.length_append, List.length_take, List.length_drop]
    omega
theorem ixN_at {n j : Nat} (h : j < n) : ixN n (j : Int) = some j := by
  unfold ixN
  rw [if_pos (by omega), if_pos (by omega)]
  rfl
theorem szL_set {l : List (List Nat)} {i : Nat} {v : List Nat} : szL (l.set i v) ≤ szL l + (v.length + 1) := by
  induction l generalizing i with
  | nil => simp [szL]
  | cons x r ih =>
    cases i with
    | zero => rw [List.set_cons_zero, szL_cons, szL_cons]; omega
    | succ i =>
      have := ih (i := i)
      rw [List.set_cons_succ, szL_cons, szL_cons]
      omega
theorem szL_td (l : List (List Nat)) (i : Nat) : szL (l.take i) + szL (l.drop i) = szL l := by
  rw [← szL_app, List.take_append_drop]
theorem szL_drop (l : List (List Nat)) (i : Nat) : szL (l.drop (i + 1)) ≤ szL (l.drop i) := by
  cases h : l.drop i with
  | nil =>
    have := List.drop_eq_nil_iff.mp h
    rw [List.drop_eq_nil_of_le (by omega)]
    exact Nat.le_refl _
  | cons x r =>
    rw [← List.drop_drop, h, szL_cons]
    show szL r ≤ _
    omega
/-- lines, put together -/
theorem ok_join {T : Str} {ss ys : List Str} {M N : Nat} (h : Runs M (tl T)) (hl : T.length ≤ N) (es : ss.map tl = TL.spl [10] 0 [] (tl T)) (hm : ∀ y ∈ ys, y ∈ ss) (hz : szL (ys.map tl) ≤ 3 * szL (ss.map tl)) : OkT (Txt.join ("\n" : Str) ys) (2 * M + 1) (3 * N + 3) := by
  have e : tl (Txt.join ("\n" : Str) ys) = TL.joinL [10] (ys.map tl) := by rw [TL.join_eq, TL.tl_join, show tl ("\n" : Str) = [10] by decide +kernel]
  refine ⟨?_, ?_⟩
  · rw [e]
    refine (Runs.join (M := M) fun l hl2 => ?_).mono (by omega)
    obtain ⟨y, hy, rfl⟩ := List.mem_map.mp hl2
    exact h.line (by rw [← es]; exact List.mem_map.mpr ⟨y, hm y hy, rfl⟩)
  · rw [len_tl, e]
    have h1 := joinL_len (s := 10) (ys.map tl)
    rw [es, szL_spl, ← len_tl] at hz
    simp at hz
    omega
theorem sum_szL (ys : List Str) : (ys.map (·.length)).sum + ys.length = szL (ys.map tl) := by
  unfold szL
  rw [List.map_map, List.length_map]
  congr 2
section
variable {P : Program} {w : World} {K : PySem.W.Frag} {mg : Str → Option Value} {base : Heap}
theorem ok_law_spoilt (B : Blt mg) (D : Def K mg "_law_spoilt" s_law_spoilt ["_law_pot_here", "_law_text"]) (G_law_take : Fn P w K mg base 1 "_law_take" ["_law_pot_here", "_law_many"] (sp_take K)) :
    Fn P w K mg base 2 "_law_spoilt" ["_law_pot_here", "_law_text"] (sp_spoilt K) := by
  refine D.ok sc_law_spoilt (fun vs H Q E h => ?_) (fun f cdv A outer s H vs Q E hr h => ?_)
  · obtain ⟨p, T, M, N, rfl, hp, ⟨run, len⟩, hN, q⟩ := h
    rfl
  · obtain ⟨p, T, M, N, rfl, hp, ⟨run, len⟩, hN, q⟩ := h
    refine ⟨_, (pss_cons (ps_set (i := 2) sc_law_spoilt.nd rfl (Or.inl rfl) pe_str)
      (pss_cons (ps_set (i := 3) sc_law_spoilt.nd rfl (Or.inl rfl) (pe_ix (ixK K ix_seq) (pv 2) (pe_fn G_law_take hr (pa_cons (pv 0) (pa_cons (pe_callB (crK K c_len) rfl B.len (by decide +kernel) (pa_cons (pv 2) pa_nil)) pa_nil))) (fun _ _ => rfl)))
      (pss_cons (ps_set (i := 4) sc_law_spoilt.nd rfl (Or.inl rfl) (pe_fn G_law_take hr (pa_cons (pv 0) (pa_cons (pe_op op_add (pe_callB (crK K c_len) rfl B.len (by decide +kernel) (pa_cons (pv 1) pa_nil)) pe_int) pa_nil))))
      (pss_cons (ps_set (i := 5) sc_law_spoilt.nd rfl (Or.inl rfl) (pe_fn G_law_take hr (pa_cons (pv 0) (pa_cons pe_int pa_nil))))
      (pss_cons (ps_if (pt_cmpR op_lt (pv 5) pe_int (nomark _))
      (pss_one (ps_ret (pe_op o_adds (pe_op o_adds (pe_slice o_slS (pv 1) po_none (po_some (pv 4))) (pe_ix (ixK K ix_seq) (pe_lst (pa_cons (pv 3) (pa_cons pe_str (pa_cons (pv 3) pa_nil)))) (pv 5) (fun _ _ => rfl))) (pe_slice o_slS (pv 1) (po_some (pe_op op_add (pv 4) (pe_callTy c_int1 rfl B.int (by decide +kernel) (pa_cons (pe_cmpR op_gt (pv 5) pe_int (nomark _)) pa_nil)))) po_none))))
      pss_nil)
      (pss_cons (ps_set (i := 6) sc_law_spoilt.nd rfl (Or.inl rfl) (pe_splitU (pv 1) pe_str))
      (pss_cons (ps_set (i := 7) sc_law_spoilt.nd rfl (Or.inl rfl) (pe_fn G_law_take hr (pa_cons (pv 0) (pa_cons (pe_callB (crK K c_len) rfl B.len (by decide +kernel) (pa_cons (pv 6) pa_nil)) pa_nil))))
      (pss_cons (ps_set (i := 8) sc_law_spoilt.nd rfl (Or.inl rfl) (pe_fn G_law_take hr (pa_cons (pv 0) (pa_cons (pe_callB (crK K c_len) rfl B.len (by decide +kernel) (pa_cons (pv 6) pa_nil)) pa_nil))))
      (pss_cons (ps_if (pt_cmpR (opK K (o_eq hr.units)) (pv 5) pe_int (nomark _))
      (pss_one (ps_set (i := 6) sc_law_spoilt.nd rfl (Or.inl rfl) (pe_op op_cat (pe_slice (slK K sl_list) (pv 6) po_none (po_some (pv 7))) (pe_slice (slK K sl_list) (pv 6) (po_some (pe_op op_add (pv 7) pe_int)) po_none))))
      pss_nil)
      (pss_cons (ps_if (pt_cmpR (opK K (o_eq hr.units)) (pv 5) pe_int (nomark _))
      (pss_one (ps_asg (pe_tup (pa_cons (pe_ix (ixK K ix_seq) (pv 6) (pv 8) (fun _ _ => rfl)) (pa_cons (pe_ix (ixK K ix_seq) (pv 6) (pv 7) (fun _ _ => rfl)) pa_nil))) (pgK_tup K (n := 2) rfl (pgs_cons (pg_sub (pv 6) (pv 7) set_list) (pgs_cons (pg_sub (pv 6) (pv 8) set_list) pgs_nil)))))
      pss_nil)
      (pss_cons (ps_if (pt_cmpR (opK K (o_eq hr.units)) (pv 5) pe_int (nomark _))
      (pss_one (ps_expr (peK_bm K PySem.F.plainAttrs_list PySem.F.slot_list_insert PySem.F.type_list_insert mt_insert (pv 6) (pa_cons (pv 8) (pa_cons (pe_ix (ixK K ix_seq) (pv 6) (pv 7) (fun _ _ => rfl)) pa_nil)))))
      pss_nil)
      (pss_one (ps_ret (pe_joinU K pe_str (pv 6))))))))))))))), ?_⟩
    refine r_start (σ' := [some (.ref p), some (.str T), none, none, none, none, none, none, none]) rfl ?_
    have sgl : (Str.ofString " -+0123456789\nax_.,~").length = 20 := by decide +kernel
    walk_at "a"
    refine r_len_s (by rw [sgl, sizeLine_eq]; decide) ?_
    rw [sgl]
    walk_at "a"
    rename_i sg H1 k1 hp1 g0 g1
    obtain ⟨c, hc⟩ : ∃ c, atI (Str.ofString " -+0123456789\nax_.,~").cps.toList sg = some c := by
      obtain ⟨n, rfl⟩ := Int.eq_ofNat_of_zero_le g0
      have hn : n < (Str.ofString " -+0123456789\nax_.,~").cps.toList.length := by
        have : (Str.ofString " -+0123456789\nax_.,~").cps.toList.length = 20 := by decide +kernel
        omega
      exact ⟨_, atI_nat (List.getElem?_eq_getElem hn)⟩
    refine r_ixs (by rw [sgl, sizeLine_eq]; decide) hc ?_
    walk_at "a"
    refine r_len_s (by rw [sizeLine_eq]; omega) ?_
    walk_at "a"
    rename_i pl H2 k2 hp2 pl0 pl1 way H3 k3 hp3 w0 w1
    have k03 : Keep (At p) H H3 := (k1.trans k2).trans k3
    refine i_cases (fun h => ?_) (fun h => ?_)
    · walk_at "a"
      refine r_slS (by rw [sizeLine_eq]; omega) ?_
      walk_at "a"
      rename_i l4 H4 n4 s4 e4
      have lc : ∀ (i : Int), (cutS T none (some pl)).length ≤ T.length ∧ (cutS T (some i) none).length ≤ T.length := fun i => by
        refine ⟨by rw [len_tl, tl_cut_to pl0, List.length_take, ← len_tl]; omega, ?_⟩
        rw [len_tl]
        unfold cutS
        simp [TL.tl_mk, Str.length, tl]
        omega
      have z0 : (Str.ofString "").length = 0 := by decide +kernel
      have z1 : (⟨#[c]⟩ : Str).length = 1 := rfl
      have fin : ∀ (m : Str) (k : Int), (tl m).length ≤ 1 → 0 ≤ k → OkT (cutS T none (some pl) ++ m ++ cutS T (some (pl + k)) none) (2 * M + 1) (3 * N + 3) := fun m k hm hk => by
        have := ok_cut (n := pl.toNat) (k := (pl + k).toNat) run (by rw [← len_tl]; exact len) hm (by omega)
        refine ⟨?_, ?_⟩
        · rw [tl_append, tl_append, tl_cut_to pl0, tl_cut_from (by omega)]
          exact this.1
        · rw [len_tl, tl_append, tl_append, tl_cut_to pl0, tl_cut_from (by omega)]
          exact this.2
      have k04 : Keep (At p) H H4 := k03.trans (Keep.of_same s4)
      have hp4 := hp3.same s4
      obtain rfl | rfl | rfl : way = 0 ∨ way = 1 ∨ way = 2 := by omega
      · refine r_ixl (SqL.of e4) (atI_nat (j := 0) rfl) ?_
        refine r_adds (by have := (lc 0).1; rw [sizeLine_eq, z1]; omega) ?_
        walk_at "a"
        refine r_slS (by rw [sizeLine_eq]; omega) ?_
        refine r_adds (Nat.le_trans (Nat.add_le_add (show _ ≤ T.length + 1 by rw [len_app, z1]; have := (lc 0).1; omega) (lc _).2) (by rw [sizeLine_eq]; omega)) ?_
        exact q _ _ k04 hp4 (fin _ 0 (by simp [tl]) (by decide))
      · refine r_ixl (SqL.of e4) (atI_nat (j := 1) rfl) ?_
        refine r_adds (by have := (lc 0).1; rw [sizeLine_eq, z0]; omega) ?_
        walk_at "a"
        refine r_slS (by rw [sizeLine_eq]; omega) ?_
        refine r_adds (Nat.le_trans (Nat.add_le_add (show _ ≤ T.length + 1 by rw [len_app, z0]; have := (lc 0).1; omega) (lc _).2) (by rw [sizeLine_eq]; omega)) ?_
        exact q _ _ k04 hp4 (fin _ 1 (by decide +kernel) (by decide))
      · refine r_ixl (SqL.of e4) (atI_nat (j := 2) rfl) ?_
        refine r_adds (by have := (lc 0).1; rw [sizeLine_eq, z1]; omega) ?_
        walk_at "a"
        refine r_slS (by rw [sizeLine_eq]; omega) ?_
        refine r_adds (Nat.le_trans (Nat.add_le_add (show _ ≤ T.length + 1 by rw [len_app, z1]; have := (lc 0).1; omega) (lc _).2) (by rw [sizeLine_eq]; omega)) ?_
        exact q _ _ k04 hp4 (fin _ 1 (by simp [tl]) (by decide))
    · walk_at "a"
      refine r_split (by decide +kernel) (by rw [sizeLine_eq]; omega) fun w4 H4 n4 s4 e4 => ?_
      have es := split_lines T
      generalize Txt.split T (Str.ofString "\n") = ss at e4 es
      have e4 : H4 w4 = some (.lst (ss.map V.str)) := e4
      have es : ss.map tl = TL.spl [10] 0 [] (tl T) := es
      have hne : ss ≠ [] := fun z => by rw [z] at es; exact spl_ne es.symm
      have hsl : ss.length ≤ T.length + 1 := by
        have h1 := szL_len (TL.spl [10] 0 [] (tl T))
        rw [szL_spl, ← es, List.length_map, ← len_tl] at h1
        simpa using h1
      have hs0 : 0 < ss.length := List.length_pos_iff.mpr hne
      have nw : w4 ≠ p := hp3.ne_new n4
      have hp4 := hp3.same s4
      walk_at "a"
      rename_i one H5 k5 hp5 o0 o1 oth H6 k6 hp6 t0 t1
      have k06 : Keep (At p) H H6 := ((k03.trans (Keep.of_same s4)).trans k5).trans k6
      have e6 : H6 w4 = some (.lst (ss.map V.str)) := k6 _ _ (k5 _ _ e4 nw) nw
      obtain ⟨a, rfl⟩ := Int.eq_ofNat_of_zero_le o0
      obtain ⟨b, rfl⟩ := Int.eq_ofNat_of_zero_le t0

      have ha : a < ss.length := by omega
      have hb : b < ss.length := by omega
      have ia : atI (ss.map V.str) (a : Int) = some (.str ss[a]) := atI_nat (by rw [List.getElem?_map, List.getElem?_eq_getElem ha]; rfl)
      have ib : atI (ss.map V.str) (b : Int) = some (.str ss[b]) := atI_nat (by rw [List.getElem?_map, List.getElem?_eq_getElem hb]; rfl)
      have za : ss[a].length + 1 ≤ szL (ss.map tl) := by rw [len_tl]; exact szL_mem (List.mem_map.mpr ⟨_, List.getElem_mem ha, rfl⟩)
      have zb : ss[b].length + 1 ≤ szL (ss.map tl) := by rw [len_tl]; exact szL_mem (List.mem_map.mpr ⟨_, List.getElem_mem hb, rfl⟩)
      have zz : szL (ss.map tl) ≤ 200001 := by rw [es, szL_spl, ← len_tl]; simp; omega
      have zl : (Str.ofString "\n").length = 1 := by decide +kernel
      have lenM : (ss.map V.str).length = ss.length := List.length_map _
      have join : ∀ {ys : List Str} {H' : Hp} {x : Addr}, Keep (At p) H H' → Pot H' p → H' x = some (.lst (ys.map V.str)) → (∀ y ∈ ys, y ∈ ss) → szL (ys.map tl) ≤ 3 * szL (ss.map tl) → uJoin K (.str (Str.ofString "\n")) [.ref x] H' Q := fun {ys H' x} k hp' e hm hz => by
        refine r_join (SqL.of e) ?_ ?_
        · rw [zl, Nat.mul_one, sum_szL]
          omega
        · exact q _ _ k hp' (ok_join run len es hm hz)
      obtain rfl | rfl | rfl : way = 3 ∨ way = 4 ∨ way = 5 := by omega
      · walk_at "a"
        rename_i x7 H7 n7 s7 e7 x8 H8 n8 s8 e8
        rw [cutV_to] at e7
        rw [show ((a : Int) + 1) = ((a + 1 : Nat) : Int) from rfl, cutV_from] at e8
        refine r_cat (s8 _ _ e7) e8 (by rw [sizeLine_eq]; simp; omega) fun x9 H9 n9 s9 e9 => ?_
        have e9 : H9 x9 = some (.lst ((ss.take a ++ ss.drop (a + 1)).map V.str)) := by rw [e9, List.map_append, List.map_take, List.map_drop]
        walk_at "a"
        have s69 := (s7.trans s8).trans s9
        refine join (k06.trans (Keep.of_same s69)) (hp6.same s69) e9 (fun y hy => ?_) ?_
        · rcases List.mem_append.mp hy with h | h
          · exact List.mem_of_mem_take h
          · exact List.mem_of_mem_drop h
        · rw [List.map_append, szL_app, List.map_take, List.map_drop]
          have h1 := szL_td (ss.map tl) a
          have h2 := szL_drop (ss.map tl) a
          omega
      · walk_at "a"
        rename_i x7 H7 n7 s7 e7
        refine r_setl (s7 _ _ e6) (ixN_at (by rw [lenM]; exact ha)) fun H8 k8 e8 => ?_
        walk_at "a"
        refine r_setl e8 (ixN_at (by rw [List.length_set, lenM]; exact hb)) fun H9 k9 e9 => ?_
        walk_at "a"
        have e9 : H9 w4 = some (.lst (((ss.set a ss[b]).set b ss[a]).map V.str)) := by rw [e9, List.map_set, List.map_set]
        have nwf : H w4 = none := by
          cases z : H w4 with
          | none => rfl
          | some o => exact absurd (k03 _ _ z nw) (by rw [n4]; simp)
        have k67 : Keep (At p) H H7 := k06.trans (Keep.of_same s7)
        have k79 : Keep (At p) H H9 := fun y o e z => k9 _ _ (k8 _ _ (k67 _ _ e z) (ne_of_none e nwf)) (ne_of_none e nwf)
        refine join k79 (((hp6.same s7).keep k8 (Ne.symm nw)).keep k9 (Ne.symm nw)) e9 (fun y hy => ?_) ?_
        · rcases List.mem_or_eq_of_mem_set hy with hy | rfl
          · rcases List.mem_or_eq_of_mem_set hy with hy | rfl
            · exact hy
            · exact List.getElem_mem hb
          · exact List.getElem_mem ha
        · rw [List.map_set, List.map_set]
          have h1 := szL_set (l := (ss.map tl).set a (tl ss[b])) (i := b) (v := tl ss[a])
          have h2 := szL_set (l := ss.map tl) (i := a) (v := tl ss[b])
          rw [len_tl] at za zb
          omega
      · walk_at "a"
        refine r_bml (SqL.of e6) ?_
        walk_at "a"
        refine ⟨w4, _, (b : Int), .str ss[a], rfl, rfl, e6, by rw [sizeLine_eq, lenM]; omega, by omega, by omega, ?_⟩
        walk_at "a"
        have e7 : (upd H6 w4 (.lst ((ss.map V.str).take (b : Int).toNat ++ [.str ss[a]] ++ (ss.map V.str).drop (b : Int).toNat))) w4 = some (.lst ((ss.take b ++ [ss[a]] ++ ss.drop b).map V.str)) := by
          rw [upd_same, show (b : Int).toNat = b from rfl]
          simp [List.map_take, List.map_drop]
        have nwf : H w4 = none := by
          cases z : H w4 with
          | none => rfl
          | some o => exact absurd (k03 _ _ z nw) (by rw [n4]; simp)
        refine join (Keep.free k06 nwf) (hp6.keep (F := At w4) Keep.at_ (Ne.symm nw)) e7 (fun y hy => ?_) ?_
        · rcases List.mem_append.mp hy with h | h
          · rcases List.mem_append.mp h with h | h
            · exact List.mem_of_mem_take h
            · rw [List.mem_singleton.mp h]; exact List.getElem_mem ha
          · exact List.mem_of_mem_drop h
        · have h1 := szL_td (ss.map tl) b
          rw [List.map_append, List.map_append, szL_app, szL_app, List.map_take, List.map_drop, List.map_singleton, szL_cons]
          rw [len_tl] at za
          show _ + ((tl ss[a]).length + 1 + 0) + _ ≤ _
          omega
end
theorem use_spoilt {K : PySem.W.Frag} {H : Hp} {Q : VK} {E : XK} {p : Addr} {T : Str} {M N : Nat} (hp : Pot H p) (ok : OkT T M N) (hN : N ≤ 200000) (q : ∀ (T' : Str) (H' : Hp), Keep (At p) H H' → Pot H' p → OkT T' (2 * M + 1) (3 * N + 3) → Q (.str T') H') : sp_spoilt K [.ref p, .str T] H Q E := ⟨p, T, M, N, rfl, hp, ok, hN, q⟩
/-! fixed texts -/
def fixedS : List Str := ["\n", "1 2", " 1 2\n", "1 2 \n", "1  2\n", "+1 2\n", "1 +2\n", "01 2\n", "1 00\n", "-0 2\n", "1 -0\n", "1 -\n", "- 1\n", "1\n", "1 2 3\n", "1 2\n1 3\n", "2 2\n1 3\n", "1 2\n\n", "1_0 2\n",
            "1.0 2\n", "1,2\n", "a b\n", "1 2\n3 4", "-1 2\n-2 3\n", "--1 2\n", "", "0 0\n", "-1 -1\n0 -9\n"]
theorem fixed_ok : ∀ T ∈ fixedS, OkT T 640 200000 := by
  have h : ∀ T ∈ fixedS, T.length ≤ 20 := by decide +kernel
  intro T hT
  have := h T hT
  exact ⟨Runs.short (by rw [← len_tl]; omega), by omega⟩
def sp_fixed (K : PySem.W.Frag) : Sp := fun vs H Q _ => vs = [] ∧ ∀ p H', Same H H' → H' p = some (.lst (fixedS.map V.str)) → Q (.ref p) H'
section
variable {P : Program} {w : World} {K : PySem.W.Frag} {mg : Str → Option Value} {base : Heap}
theorem ok_law_fixed (B : Blt mg) (D : Def K mg "_law_fixed" s_law_fixed []) :
    Fn P w K mg base 1 "_law_fixed" [] (sp_fixed K) := by
  refine D.ok sc_law_fixed (fun vs H Q E h => ?_) (fun f cdv A outer s H vs Q E hr h => ?_)
  · obtain ⟨rfl, q⟩ := h
    rfl
  · obtain ⟨rfl, q⟩ := h
    refine ⟨_, (pss_cons (ps_set (i := 0) sc_law_fixed.nd rfl (Or.inl rfl) (pe_lst (pa_cons pe_str (pa_cons pe_str (pa_cons pe_str (pa_cons pe_str (pa_cons pe_str (pa_cons pe_str (pa_cons pe_str (pa_cons pe_str (pa_cons pe_str (pa_cons pe_str (pa_cons pe_str pa_nil)))))))))))))
      (pss_cons (ps_set (i := 0) sc_law_fixed.nd rfl (Or.inl rfl) (pe_op op_cat (pv 0) (pe_lst (pa_cons pe_str (pa_cons pe_str (pa_cons pe_str (pa_cons pe_str (pa_cons pe_str (pa_cons pe_str (pa_cons pe_str (pa_cons pe_str (pa_cons pe_str pa_nil))))))))))))
      (pss_one (ps_ret (pe_op op_cat (pv 0) (pe_lst (pa_cons pe_str (pa_cons pe_str (pa_cons pe_str (pa_cons pe_str (pa_cons pe_str (pa_cons pe_str (pa_cons pe_str (pa_cons pe_str pa_nil)))))))))))))), ?_⟩
    refine r_start (σ' := [none]) rfl ?_
    walk_at "a"
    rename_i a H1 n1 s1 e1 b H2 n2 s2 e2 c H3 n3 s3 e3 d H4 n4 s4 e4 f H5 n5 s5 e5
    exact q f H5 ((((s1.trans s2).trans s3).trans s4).trans s5) e5
end
theorem use_fixed {K : PySem.W.Frag} {H : Hp} {Q : VK} {E : XK} (q : ∀ p H', Same H H' → H' p = some (.lst (fixedS.map V.str)) → Q (.ref p) H') : sp_fixed K [] H Q E := ⟨rfl, q⟩
/-! ### the law's run -/
theorem runs_text : ∀ {c : Prs}, (∀ p ∈ c, Bdk 61 p) → Runs 62 (textN c)
  | [], _ => Runs.short (by simp [textN])
  | p :: c, h => by
    have h1 := numT_len (k := 61) (by decide) (h p (List.mem_cons_self ..)).t
    have h2 := numT_len (k := 61) (by decide) (h p (List.mem_cons_self ..)).h
    have e : textN (p :: c) = (numT p.1 ++ 32 :: numT p.2) ++ 10 :: textN c := by simp [textN, lineT]
    rw [e]
    exact ((Runs.short h1).sep (.inl rfl) (Runs.short h2)).sep (.inr rfl) (runs_text fun q hq => h q (List.mem_cons_of_mem _ hq))
def mM : Nat → Nat
  | 0 => 62
  | j + 1 => 2 * mM j + 1
def nN : Nat → Nat
  | 0 => 5040
  | j + 1 => 3 * nN j + 3
theorem mn_le {j : Nat} (h : j ≤ 3) : mM j ≤ 640 ∧ nN j ≤ 200000 := by
  obtain rfl | rfl | rfl | rfl : j = 0 ∨ j = 1 ∨ j = 2 ∨ j = 3 := by omega
  all_goals decide
theorem OkT.up {T : Str} {M N M' N' : Nat} (h : OkT T M N) (a : M ≤ M') (b : N ≤ N') : OkT T M' N' := ⟨h.run.mono a, Nat.le_trans h.len b⟩
theorem NoT.same {K : PySem.W.Frag} {H H' : Hp} {v : V} (h : NoT K H v) (s : Same H H') : NoT K H' v := by
  cases h with
  | dp h n => exact .dp (Dp.same s _ _ h) n
  | dk h => exact .dk (s _ _ h)
theorem noS_none : isT "str" PyData.none = false := show isK "str" "NoneType" = false by decide +kernel
theorem noS_int (i : Int) : isT "str" (PyData.int i) = false := show isK "str" "int" = false by decide +kernel
theorem noS_bool (b : Bool) : isT "str" (PyData.bool b) = false := show isK "str" "bool" = false by decide +kernel
theorem noS_tup (ds : List PyData) : isT "str" (PyData.tuple ds) = false := show isK "str" "tuple" = false by decide +kernel
theorem noS_lst (ds : List PyData) : isT "str" (PyData.list ds) = false := show isK "str" "list" = false by decide +kernel
section
variable {P : Program} {w : World} {K : PySem.W.Frag} {mg : Str → Option Value} {base : Heap}
theorem ok_law {f : Addr} {fd : FuncData} (B : Blt mg) (F : Fun K "law" "law" s_law f fd) (G_law_curve : Fn P w K mg base 1 "_law_curve" ["_law_samples_here"] (sp_curve K)) (G_curve_text : Fn P w K mg base 1 "curve_text" ["curve"] (sp_curve_text K)) (G_law_samples : Fn P w K mg base 3 "_law_samples" ["_law_script"] (sp_samples K)) (G_law_pot : Fn P w K mg base 1 "_law_pot" ["_law_cell_here"] (sp_pot K)) (G_law_spoilt : Fn P w K mg base 2 "_law_spoilt" ["_law_pot_here", "_law_text"] (sp_spoilt K)) (G_law_right : Fn P w K mg base 6 "_law_right" ["_law_text"] (sp_right K)) (G_law_take : Fn P w K mg base 1 "_law_take" ["_law_pot_here", "_law_many"] (sp_take K)) (G_law_read : Fn P w K mg base 5 "_law_read" ["_law_thing"] (sp_lread K)) (G_law_cell : Fn P w K mg base 1 "_law_cell" ["_law_script", "_law_k"] (sp_nth K)) (G_law_fixed : Fn P w K mg base 1 "_law_fixed" [] (sp_fixed K)) :
    FnOk P w K mg base (L2.CX P w) 7 f fd ["_law_script"] (sp_law K) := by
  refine fn_up (F.ok sc_law (fun vs H Q E h => ?_) (fun cdv A outer s H vs Q E hr h => ?_))
  · obtain ⟨sa, ns, rfl, hS, hl, q⟩ := h
    rfl
  · obtain ⟨sa, ns, rfl, hS, hl, q⟩ := h
    refine ⟨_, (pss_cons (ps_set (i := 1) sc_law.nd rfl (Or.inl rfl) (pe_fn G_law_curve hr (pa_cons (pe_fn G_law_samples hr (pa_cons (pv 0) pa_nil)) pa_nil)))
      (pss_cons (ps_set (i := 2) sc_law.nd rfl (Or.inl rfl) (pe_fn G_curve_text hr (pa_cons (pv 1) pa_nil)))
      (pss_cons (ps_for PassesOwn.never rfl (pi_range1 rfl B.range (pa_cons (pe_callB (c_max2 rfl) rfl B.max (by decide +kernel) (pa_cons pe_int (pa_cons (pe_callB (c_min2 rfl) rfl B.min (by decide +kernel) (pa_cons pe_int (pa_cons (pe_callB (crK K c_len) rfl B.len (by decide +kernel) (pa_cons (pv 0) pa_nil)) pa_nil))) pa_nil))) pa_nil)) (pg_name (i := 3) sc_law.nd rfl (Or.inl rfl))
      (pss_cons (ps_set (i := 4) sc_law.nd rfl (Or.inl rfl) (pe_fn G_law_pot hr (pa_cons (pe_op op_add (pe_op op_fdivW (pe_fn G_law_cell hr (pa_cons (pv 0) (pa_cons (pv 3) pa_nil))) pe_int) (pe_op op_mulY pe_int (pv 3))) pa_nil)))
      (pss_cons (ps_set (i := 5) sc_law.nd rfl (Or.inl rfl) (pv 2))
      (pss_one (ps_for PassesOwn.never rfl (pi_range1 rfl B.range (pa_cons (pe_op op_add pe_int (pe_fn G_law_take hr (pa_cons (pv 4) (pa_cons pe_int pa_nil)))) pa_nil)) (pg_name (i := 6) sc_law.nd rfl (Or.inl rfl))
      (pss_cons (ps_set (i := 5) sc_law.nd rfl (Or.inl rfl) (pe_fn G_law_spoilt hr (pa_cons (pv 4) (pa_cons (pv 5) pa_nil))))
      (pss_one (ps_if (pt_not (pt_val (pe_fn G_law_right hr (pa_cons (pv 5) pa_nil))))
      (pss_one (ps_ret pe_bl))
      pss_nil))))))))
      (pss_cons (ps_if (PW.pt (pw_or (pt_not (pt_val (pe_callB (crK K (cr_all rfl)) rfl B.all (by decide +kernel) (pa_cons (pe_lc (own := [("_law_text", 5)]) (g := gName 5) (tt := tYes) rfl sc_law.nd (piK_list K (pe_fn0 G_law_fixed hr)) (blkOk_by (N := ["_law_script", "_law_curve_here", "_law_good", "_law_k", "_law_pot_here", "_law_text", "_law_turn", "_law_thing"]) (sc := defScope s_law) (by decide +kernel)) (fun _ _ _ _ _ => (pg_name (i := 5) sc_law.nd rfl (Or.inl rfl))) (fun _ _ _ _ _ => pts_nil) (fun _ _ _ _ _ => (pe_fn G_law_right hr (pa_cons (pv 5) pa_nil)))) pa_nil)))) (pw_or1 (pt_not (pt_val (pe_fn G_law_right hr (pa_cons (pv 2) pa_nil)))))))
      (pss_one (ps_ret pe_bl))
      pss_nil)
      (pss_one (ps_ret (pe_callB (crK K (cr_all rfl)) rfl B.all (by decide +kernel) (pa_cons (pe_lc (own := [("_law_thing", 7)]) (g := gName 7) (tt := tYes) rfl sc_law.nd (piK_list K (pe_lst (pa_cons pe_non (pa_cons pe_int (pa_cons pe_bl (pa_cons (pe_tup pa_nil) (pa_cons (pe_lst (pa_cons (pv 2) pa_nil)) (pa_cons (pe_tup (pa_cons (pv 2) pa_nil)) (pa_cons (pe_op (opK K op_catA) (pv 1) (pe_tup (pa_cons (pe_tup (pa_cons pe_int (pa_cons pe_int pa_nil))) pa_nil))) (pa_cons pe_dnewK pa_nil)))))))))) (blkOk_by (N := ["_law_script", "_law_curve_here", "_law_good", "_law_k", "_law_pot_here", "_law_text", "_law_turn", "_law_thing"]) (sc := defScope s_law) (by decide +kernel)) (fun _ _ _ _ _ => (pg_name (i := 7) sc_law.nd rfl (Or.inl rfl))) (fun _ _ _ _ _ => pts_nil) (fun _ _ _ _ _ => (pe_cmpR (opK K (o_eqNil hr.units)) (pe_fn G_law_read hr (pa_cons (pv 7) pa_nil)) (pe_lst pa_nil) (nomark _)))) pa_nil)))))))), ?_⟩
    refine r_start (σ' := [some (.ref sa), none, none, none, none, none, none, none]) rfl ?_
    have hS0 := hS.1
    walk_at "a"
    refine use_samples hS hl fun f l ws H1 n1 s1 e1 d1 l1 b1 => ?_
    walk_at "a"
    refine use_curve (SqL.of e1) d1 (by omega) fun c p2 H2 s2 hc d2 => ?_
    have bd : ∀ p ∈ c, Bdk 61 p := fun p hp => bdk_of (b1 p ((hc.mem p).mp hp).mem)
    have hcl : c.length ≤ 40 := by have := hc.len; omega
    walk_at "a"
    refine use_curve_text d2 bd (by omega) fun H3 s3 => ?_
    have d3 := Dp.same s3 _ _ d2
    have okg : OkT (textS c) (mM 0) (nN 0) := by
      refine ⟨by rw [tl_textS]; exact runs_text bd, ?_⟩
      rw [len_tl, tl_textS]
      refine Nat.le_trans (textN_len (k := 61) (by decide) bd) ?_
      show _ ≤ 5040
      omega
    have okg2 : OkT (textS c) 640 200000 := okg.up (by decide) (by decide)
    walk_at "a"
    refine for_wk wk_rng (fun i σ H' => (∃ v1 v2 v3 v4 v5 : Option V, σ = [some (.ref sa), some (.ref p2), some (.str (textS c)), v1, v2, v3, v4, v5]) ∧ Same H3 H') ⟨⟨_, _, _, _, _, rfl⟩, Same.refl _⟩ (fun _ _ _ _ _ => trivial) ?_ ?_
    · rintro i x σ H4 H4' hi ⟨⟨v1, v2, v3, v4, v5, rfl⟩, s4⟩ ⟨rfl, rfl⟩
      have hS4 := (hS.text (TExt.of_same (((s1.trans s2).trans s3).trans s4))).1
      walk_at "a"
      rename_i pp H5 n5 s5 hp5 r H6 k6 hp6 r0 r1
      have s46 : Same H4' H6 := same_at s5 n5 k6
      refine for_wk wk_rng (fun j σ H' => (∃ v1 v2 v3 : Option V, ∃ T : Str, σ = [some (.ref sa), some (.ref p2), some (.str (textS c)), v1, some (.ref pp), some (.str T), v2, v3] ∧ OkT T (mM j) (nN j)) ∧ Same H4' H' ∧ Pot H' pp) ⟨⟨_, _, _, _, rfl, okg⟩, s46, hp6⟩ (fun _ _ _ _ _ => trivial) ?_ ?_
      · rintro j y σ H7 H7' hj ⟨⟨v1, v2, v3, T, rfl, okT⟩, s7, hp7⟩ ⟨rfl, rfl⟩
        have hj3 : j + 1 ≤ 3 := by omega
        walk_at "a"
        refine use_spoilt hp7 okT (mn_le (j := j) (by omega)).2 fun T' H8 k8 hp8 ok8 => ?_
        have ok9 : OkT T' (mM (j + 1)) (nN (j + 1)) := ok8
        have b9 := mn_le hj3
        have s8 : Same H4' H8 := same_at s7 n5 k8
        walk_at "a"
        refine use_right (ok9.up b9.1 b9.2) fun H9 s9 => ?_
        walk_at "a"
        exact ⟨⟨_, _, _, _, rfl, ok9⟩, s8.trans s9, hp8.same s9⟩
      · rintro σ H7 ⟨⟨v1, v2, v3, T, rfl, okT⟩, s7, hp7⟩
        walk_at "a"
        exact ⟨⟨_, _, _, _, _, rfl⟩, s4.trans s7⟩
    · rintro σ H4 ⟨⟨v1, v2, v3, v4, v5, rfl⟩, s4⟩
      have d4 := Dp.same s4 _ _ d3
      walk_at "a"
      refine use_fixed fun pf H5 s5 e5 => ?_
      refine r_wl (SqL.of e5) ?_
      have w : Wk (Itl K pf) fixedS.length (fun H => SqL K H pf (fixedS.map V.str)) (fun i H x H' => H' = H ∧ (fixedS.map V.str)[i]? = some x) := by
        have w := wk_list (K := K) (a := pf) (xs := fixedS.map V.str)
        rwa [List.length_map] at w
      refine lc_gen (as := fixedS) (fun l v _ => v = .str l) w (fun i H2 v H' hi h => by
        obtain ⟨rfl, hx⟩ := h
        rw [List.getElem?_map] at hx
        obtain ⟨l, hl, rfl⟩ := Option.map_eq_some_iff.mp hx
        exact ⟨l, hl, Same.refl _, rfl⟩) (fun H' s => s.seq (SqL.of e5)) (by decide) (fun _ => true) (fun _ l y => y = .bl true) (fun _ _ _ _ _ h => h) (fun l v H7 S N hml s7 hv k1 k2 => ?_) (fun D H7 ys hD s7 e7 p7 => ?_)
      · subst hv
        refine r_gname ⟨wipe_one, ?_⟩
        walk_at "a"
        exact use_right (fixed_ok _ hml) fun H8 s8 => k1 rfl _ _ s8 rfl
      walk_at "a"
      refine r_allT (SqL.of e7) (paired_right p7) ?_
      walk_at "a"
      refine use_right okg2 fun H8 s8 => ?_
      have d8 := Dp.same ((s5.trans s7).trans s8) _ _ d4
      obtain ⟨pc, wc, epc, hq8, hw8⟩ := dp_tup d8
      cases epc
      have hwl : wc.length = c.length := by rw [dpAll_len hw8, List.length_map]
      walk_at "a"
      rename_i t1 H9 n9 s9 e9 l2 H10 n10 s10 e10 t3 H11 n11 s11 e11 z4 H12 n12 s12 e12 z5 H13 n13 s13 e13
      have q13 := s13
      have q12 := s12.trans q13
      have q11 := s11.trans q12
      have q10 := s10.trans q11
      have q9 := s9.trans q10
      refine r_catA (SqT.text (TExt.of_same q9) hq8) (SqT.of e13) (by rw [sizeLine_eq]; simp; omega) fun x14 H14 s14 hx14 => ?_
      walk_at "a"
      refine r_dnew fun d15 H15 n15 s15 e15 => ?_
      walk_at "a"
      rename_i l16 H16 n16 s16 e16
      have r16 := s16
      have r15 := s15.trans r16
      have r14 := s14.trans r15
      have dz : Dp K H16 (.ref x14) (.tuple ((c.map pairP) ++ [.tuple [.int 0, .int 0]])) := by
        refine .tup (SqT.text (TExt.of_same r15) hx14) (dpAll_snoc (DpAll.same (q9.trans r14) _ _ hw8) (.tup (SqT.of (r14 _ _ (s13 _ _ e12))) (.cons (.int 0) (.cons (.int 0) .nil))))
      have all : ∀ v ∈ [V.non, V.int 7, V.bl true, V.ref t1, V.ref l2, V.ref t3, V.ref x14, V.ref d15], NoT K H16 v := by
        intro v hv
        simp only [List.mem_cons, List.not_mem_nil, or_false] at hv
        rcases hv with rfl | rfl | rfl | rfl | rfl | rfl | rfl | rfl
        · exact .dp .non noS_none
        · exact .dp (.int 7) (noS_int 7)
        · exact .dp (.bl true) (noS_bool true)
        · exact .dp (.tup (SqT.of (r14 _ _ (q10 _ _ e9))) .nil) (noS_tup _)
        · exact .dp (.lst (SqL.of (r14 _ _ (q11 _ _ e10))) (.cons (.str _) .nil)) (noS_lst _)
        · exact .dp (.tup (SqT.of (r14 _ _ (q12 _ _ e11))) (.cons (.str _) .nil)) (noS_tup _)
        · exact .dp dz (noS_tup _)
        · exact .dk (s16 _ _ e15)
      refine lc_gen (as := [V.non, V.int 7, V.bl true, V.ref t1, V.ref l2, V.ref t3, V.ref x14, V.ref d15]) (fun l v _ => v = l) (wk_list (K := K) (a := l16)) (fun i H2 v H' hi h => by
        obtain ⟨rfl, hx⟩ := h
        exact ⟨v, hx, Same.refl _, rfl⟩) (fun H' s => s.seq (SqL.of e16)) (by simp) (fun _ => true) (fun _ l y => y = .bl true) (fun _ _ _ _ _ h => h) (fun l v H17 S N hml s17 hv k1 k2 => ?_) (fun D H17 ys hD s17 e17 p17 => ?_)
      · subst hv
        refine r_gname ⟨wipe_one, ?_⟩
        walk_at "a"
        refine use_lread_no ((all _ hml).same s17) fun x H18 s18 e18 => ?_
        walk_at "a"
        rename_i y19 H19 n19 s19 e19
        exact k1 rfl _ _ (s18.trans s19) rfl
      walk_at "a"
      refine r_allT (SqL.of e17) (paired_right p17) ?_
      exact q _
end
theorem all_mk {l : PySem.W.OpenLaw} {w : World} {K : PySem.W.Frag} {h : Heap} {mg : Str → Option Value} {fa : Addr} (X : K.In h) (G : h.Ns mainGlobals mg) (hfa : mg "law" = some (.ref fa))
    {od_is_whole an_is_whole : Option Addr} {sl_is_whole : Array (Option Value)} {f_is_whole : Addr} {oc_is_whole kV_is_whole dc_is_whole pm_is_whole cd_is_whole ct_is_whole : Value}
    (a_is_whole : PySem.W.nsIn K mainGlobals "is_whole" = some (some (.ref f_is_whole)))
    (l_is_whole : K.lookup f_is_whole = some ⟨oc_is_whole, od_is_whole, .func (PySem.W.fnOf "is_whole" "is_whole" (defArgs s_is_whole) (defBody s_is_whole) (defScope s_is_whole) .none kV_is_whole dc_is_whole pm_is_whole an_is_whole cd_is_whole ct_is_whole), sl_is_whole⟩)
    (c_is_whole : PySem.W.codeIn K cd_is_whole "is_whole" = true) (k_is_whole : PySem.W.keepIn K (.ref f_is_whole) = true)
    {od_is_sample an_is_sample : Option Addr} {sl_is_sample : Array (Option Value)} {f_is_sample : Addr} {oc_is_sample kV_is_sample dc_is_sample pm_is_sample cd_is_sample ct_is_sample : Value}
    (a_is_sample : PySem.W.nsIn K mainGlobals "is_sample" = some (some (.ref f_is_sample)))
    (l_is_sample : K.lookup f_is_sample = some ⟨oc_is_sample, od_is_sample, .func (PySem.W.fnOf "is_sample" "is_sample" (defArgs s_is_sample) (defBody s_is_sample) (defScope s_is_sample) .none kV_is_sample dc_is_sample pm_is_sample an_is_sample cd_is_sample ct_is_sample), sl_is_sample⟩)
    (c_is_sample : PySem.W.codeIn K cd_is_sample "is_sample" = true) (k_is_sample : PySem.W.keepIn K (.ref f_is_sample) = true)
    {od_is_curve an_is_curve : Option Addr} {sl_is_curve : Array (Option Value)} {f_is_curve : Addr} {oc_is_curve kV_is_curve dc_is_curve pm_is_curve cd_is_curve ct_is_curve : Value}
    (a_is_curve : PySem.W.nsIn K mainGlobals "is_curve" = some (some (.ref f_is_curve)))
    (l_is_curve : K.lookup f_is_curve = some ⟨oc_is_curve, od_is_curve, .func (PySem.W.fnOf "is_curve" "is_curve" (defArgs s_is_curve) (defBody s_is_curve) (defScope s_is_curve) .none kV_is_curve dc_is_curve pm_is_curve an_is_curve cd_is_curve ct_is_curve), sl_is_curve⟩)
    (c_is_curve : PySem.W.codeIn K cd_is_curve "is_curve" = true) (k_is_curve : PySem.W.keepIn K (.ref f_is_curve) = true)
    {od_curve_text an_curve_text : Option Addr} {sl_curve_text : Array (Option Value)} {f_curve_text : Addr} {oc_curve_text kV_curve_text dc_curve_text pm_curve_text cd_curve_text ct_curve_text : Value}
    (a_curve_text : PySem.W.nsIn K mainGlobals "curve_text" = some (some (.ref f_curve_text)))
    (l_curve_text : K.lookup f_curve_text = some ⟨oc_curve_text, od_curve_text, .func (PySem.W.fnOf "curve_text" "curve_text" (defArgs s_curve_text) (defBody s_curve_text) (defScope s_curve_text) .none kV_curve_text dc_curve_text pm_curve_text an_curve_text cd_curve_text ct_curve_text), sl_curve_text⟩)
    (c_curve_text : PySem.W.codeIn K cd_curve_text "curve_text" = true) (k_curve_text : PySem.W.keepIn K (.ref f_curve_text) = true)
    {od_is_figures an_is_figures : Option Addr} {sl_is_figures : Array (Option Value)} {f_is_figures : Addr} {oc_is_figures kV_is_figures dc_is_figures pm_is_figures cd_is_figures ct_is_figures : Value}
    (a_is_figures : PySem.W.nsIn K mainGlobals "is_figures" = some (some (.ref f_is_figures)))
    (l_is_figures : K.lookup f_is_figures = some ⟨oc_is_figures, od_is_figures, .func (PySem.W.fnOf "is_figures" "is_figures" (defArgs s_is_figures) (defBody s_is_figures) (defScope s_is_figures) .none kV_is_figures dc_is_figures pm_is_figures an_is_figures cd_is_figures ct_is_figures), sl_is_figures⟩)
    (c_is_figures : PySem.W.codeIn K cd_is_figures "is_figures" = true) (k_is_figures : PySem.W.keepIn K (.ref f_is_figures) = true)
    {od_read_number an_read_number : Option Addr} {sl_read_number : Array (Option Value)} {f_read_number : Addr} {oc_read_number kV_read_number dc_read_number pm_read_number cd_read_number ct_read_number : Value}
    (a_read_number : PySem.W.nsIn K mainGlobals "read_number" = some (some (.ref f_read_number)))
    (l_read_number : K.lookup f_read_number = some ⟨oc_read_number, od_read_number, .func (PySem.W.fnOf "read_number" "read_number" (defArgs s_read_number) (defBody s_read_number) (defScope s_read_number) .none kV_read_number dc_read_number pm_read_number an_read_number cd_read_number ct_read_number), sl_read_number⟩)
    (c_read_number : PySem.W.codeIn K cd_read_number "read_number" = true) (k_read_number : PySem.W.keepIn K (.ref f_read_number) = true)
    {od_read_sample an_read_sample : Option Addr} {sl_read_sample : Array (Option Value)} {f_read_sample : Addr} {oc_read_sample kV_read_sample dc_read_sample pm_read_sample cd_read_sample ct_read_sample : Value}
    (a_read_sample : PySem.W.nsIn K mainGlobals "read_sample" = some (some (.ref f_read_sample)))
    (l_read_sample : K.lookup f_read_sample = some ⟨oc_read_sample, od_read_sample, .func (PySem.W.fnOf "read_sample" "read_sample" (defArgs s_read_sample) (defBody s_read_sample) (defScope s_read_sample) .none kV_read_sample dc_read_sample pm_read_sample an_read_sample cd_read_sample ct_read_sample), sl_read_sample⟩)
    (c_read_sample : PySem.W.codeIn K cd_read_sample "read_sample" = true) (k_read_sample : PySem.W.keepIn K (.ref f_read_sample) = true)
    {od_read_curve an_read_curve : Option Addr} {sl_read_curve : Array (Option Value)} {f_read_curve : Addr} {oc_read_curve kV_read_curve dc_read_curve pm_read_curve cd_read_curve ct_read_curve : Value}
    (a_read_curve : PySem.W.nsIn K mainGlobals "read_curve" = some (some (.ref f_read_curve)))
    (l_read_curve : K.lookup f_read_curve = some ⟨oc_read_curve, od_read_curve, .func (PySem.W.fnOf "read_curve" "read_curve" (defArgs s_read_curve) (defBody s_read_curve) (defScope s_read_curve) .none kV_read_curve dc_read_curve pm_read_curve an_read_curve cd_read_curve ct_read_curve), sl_read_curve⟩)
    (c_read_curve : PySem.W.codeIn K cd_read_curve "read_curve" = true) (k_read_curve : PySem.W.keepIn K (.ref f_read_curve) = true)
    {od_law_cell an_law_cell : Option Addr} {sl_law_cell : Array (Option Value)} {f_law_cell : Addr} {oc_law_cell kV_law_cell dc_law_cell pm_law_cell cd_law_cell ct_law_cell : Value}
    (a_law_cell : PySem.W.nsIn K mainGlobals "_law_cell" = some (some (.ref f_law_cell)))
    (l_law_cell : K.lookup f_law_cell = some ⟨oc_law_cell, od_law_cell, .func (PySem.W.fnOf "_law_cell" "_law_cell" (defArgs s_law_cell) (defBody s_law_cell) (defScope s_law_cell) .none kV_law_cell dc_law_cell pm_law_cell an_law_cell cd_law_cell ct_law_cell), sl_law_cell⟩)
    (c_law_cell : PySem.W.codeIn K cd_law_cell "_law_cell" = true) (k_law_cell : PySem.W.keepIn K (.ref f_law_cell) = true)
    {od_law_pot an_law_pot : Option Addr} {sl_law_pot : Array (Option Value)} {f_law_pot : Addr} {oc_law_pot kV_law_pot dc_law_pot pm_law_pot cd_law_pot ct_law_pot : Value}
    (a_law_pot : PySem.W.nsIn K mainGlobals "_law_pot" = some (some (.ref f_law_pot)))
    (l_law_pot : K.lookup f_law_pot = some ⟨oc_law_pot, od_law_pot, .func (PySem.W.fnOf "_law_pot" "_law_pot" (defArgs s_law_pot) (defBody s_law_pot) (defScope s_law_pot) .none kV_law_pot dc_law_pot pm_law_pot an_law_pot cd_law_pot ct_law_pot), sl_law_pot⟩)
    (c_law_pot : PySem.W.codeIn K cd_law_pot "_law_pot" = true) (k_law_pot : PySem.W.keepIn K (.ref f_law_pot) = true)
    {od_law_take an_law_take : Option Addr} {sl_law_take : Array (Option Value)} {f_law_take : Addr} {oc_law_take kV_law_take dc_law_take pm_law_take cd_law_take ct_law_take : Value}
    (a_law_take : PySem.W.nsIn K mainGlobals "_law_take" = some (some (.ref f_law_take)))
    (l_law_take : K.lookup f_law_take = some ⟨oc_law_take, od_law_take, .func (PySem.W.fnOf "_law_take" "_law_take" (defArgs s_law_take) (defBody s_law_take) (defScope s_law_take) .none kV_law_take dc_law_take pm_law_take an_law_take cd_law_take ct_law_take), sl_law_take⟩)
    (c_law_take : PySem.W.codeIn K cd_law_take "_law_take" = true) (k_law_take : PySem.W.keepIn K (.ref f_law_take) = true)
    {od_law_number an_law_number : Option Addr} {sl_law_number : Array (Option Value)} {f_law_number : Addr} {oc_law_number kV_law_number dc_law_number pm_law_number cd_law_number ct_law_number : Value}
    (a_law_number : PySem.W.nsIn K mainGlobals "_law_number" = some (some (.ref f_law_number)))
    (l_law_number : K.lookup f_law_number = some ⟨oc_law_number, od_law_number, .func (PySem.W.fnOf "_law_number" "_law_number" (defArgs s_law_number) (defBody s_law_number) (defScope s_law_number) .none kV_law_number dc_law_number pm_law_number an_law_number cd_law_number ct_law_number), sl_law_number⟩)
    (c_law_number : PySem.W.codeIn K cd_law_number "_law_number" = true) (k_law_number : PySem.W.keepIn K (.ref f_law_number) = true)
    {od_law_samples an_law_samples : Option Addr} {sl_law_samples : Array (Option Value)} {f_law_samples : Addr} {oc_law_samples kV_law_samples dc_law_samples pm_law_samples cd_law_samples ct_law_samples : Value}
    (a_law_samples : PySem.W.nsIn K mainGlobals "_law_samples" = some (some (.ref f_law_samples)))
    (l_law_samples : K.lookup f_law_samples = some ⟨oc_law_samples, od_law_samples, .func (PySem.W.fnOf "_law_samples" "_law_samples" (defArgs s_law_samples) (defBody s_law_samples) (defScope s_law_samples) .none kV_law_samples dc_law_samples pm_law_samples an_law_samples cd_law_samples ct_law_samples), sl_law_samples⟩)
    (c_law_samples : PySem.W.codeIn K cd_law_samples "_law_samples" = true) (k_law_samples : PySem.W.keepIn K (.ref f_law_samples) = true)
    {od_law_curve an_law_curve : Option Addr} {sl_law_curve : Array (Option Value)} {f_law_curve : Addr} {oc_law_curve kV_law_curve dc_law_curve pm_law_curve cd_law_curve ct_law_curve : Value}
    (a_law_curve : PySem.W.nsIn K mainGlobals "_law_curve" = some (some (.ref f_law_curve)))
    (l_law_curve : K.lookup f_law_curve = some ⟨oc_law_curve, od_law_curve, .func (PySem.W.fnOf "_law_curve" "_law_curve" (defArgs s_law_curve) (defBody s_law_curve) (defScope s_law_curve) .none kV_law_curve dc_law_curve pm_law_curve an_law_curve cd_law_curve ct_law_curve), sl_law_curve⟩)
    (c_law_curve : PySem.W.codeIn K cd_law_curve "_law_curve" = true) (k_law_curve : PySem.W.keepIn K (.ref f_law_curve) = true)
    {od_law_whole_of an_law_whole_of : Option Addr} {sl_law_whole_of : Array (Option Value)} {f_law_whole_of : Addr} {oc_law_whole_of kV_law_whole_of dc_law_whole_of pm_law_whole_of cd_law_whole_of ct_law_whole_of : Value}
    (a_law_whole_of : PySem.W.nsIn K mainGlobals "_law_whole_of" = some (some (.ref f_law_whole_of)))
    (l_law_whole_of : K.lookup f_law_whole_of = some ⟨oc_law_whole_of, od_law_whole_of, .func (PySem.W.fnOf "_law_whole_of" "_law_whole_of" (defArgs s_law_whole_of) (defBody s_law_whole_of) (defScope s_law_whole_of) .none kV_law_whole_of dc_law_whole_of pm_law_whole_of an_law_whole_of cd_law_whole_of ct_law_whole_of), sl_law_whole_of⟩)
    (c_law_whole_of : PySem.W.codeIn K cd_law_whole_of "_law_whole_of" = true) (k_law_whole_of : PySem.W.keepIn K (.ref f_law_whole_of) = true)
    {od_law_curve_of an_law_curve_of : Option Addr} {sl_law_curve_of : Array (Option Value)} {f_law_curve_of : Addr} {oc_law_curve_of kV_law_curve_of dc_law_curve_of pm_law_curve_of cd_law_curve_of ct_law_curve_of : Value}
    (a_law_curve_of : PySem.W.nsIn K mainGlobals "_law_curve_of" = some (some (.ref f_law_curve_of)))
    (l_law_curve_of : K.lookup f_law_curve_of = some ⟨oc_law_curve_of, od_law_curve_of, .func (PySem.W.fnOf "_law_curve_of" "_law_curve_of" (defArgs s_law_curve_of) (defBody s_law_curve_of) (defScope s_law_curve_of) .none kV_law_curve_of dc_law_curve_of pm_law_curve_of an_law_curve_of cd_law_curve_of ct_law_curve_of), sl_law_curve_of⟩)
    (c_law_curve_of : PySem.W.codeIn K cd_law_curve_of "_law_curve_of" = true) (k_law_curve_of : PySem.W.keepIn K (.ref f_law_curve_of) = true)
    {od_law_read an_law_read : Option Addr} {sl_law_read : Array (Option Value)} {f_law_read : Addr} {oc_law_read kV_law_read dc_law_read pm_law_read cd_law_read ct_law_read : Value}
    (a_law_read : PySem.W.nsIn K mainGlobals "_law_read" = some (some (.ref f_law_read)))
    (l_law_read : K.lookup f_law_read = some ⟨oc_law_read, od_law_read, .func (PySem.W.fnOf "_law_read" "_law_read" (defArgs s_law_read) (defBody s_law_read) (defScope s_law_read) .none kV_law_read dc_law_read pm_law_read an_law_read cd_law_read ct_law_read), sl_law_read⟩)
    (c_law_read : PySem.W.codeIn K cd_law_read "_law_read" = true) (k_law_read : PySem.W.keepIn K (.ref f_law_read) = true)
    {od_law_right an_law_right : Option Addr} {sl_law_right : Array (Option Value)} {f_law_right : Addr} {oc_law_right kV_law_right dc_law_right pm_law_right cd_law_right ct_law_right : Value}
    (a_law_right : PySem.W.nsIn K mainGlobals "_law_right" = some (some (.ref f_law_right)))
    (l_law_right : K.lookup f_law_right = some ⟨oc_law_right, od_law_right, .func (PySem.W.fnOf "_law_right" "_law_right" (defArgs s_law_right) (defBody s_law_right) (defScope s_law_right) .none kV_law_right dc_law_right pm_law_right an_law_right cd_law_right ct_law_right), sl_law_right⟩)
    (c_law_right : PySem.W.codeIn K cd_law_right "_law_right" = true) (k_law_right : PySem.W.keepIn K (.ref f_law_right) = true)
    {od_law_spoilt an_law_spoilt : Option Addr} {sl_law_spoilt : Array (Option Value)} {f_law_spoilt : Addr} {oc_law_spoilt kV_law_spoilt dc_law_spoilt pm_law_spoilt cd_law_spoilt ct_law_spoilt : Value}
    (a_law_spoilt : PySem.W.nsIn K mainGlobals "_law_spoilt" = some (some (.ref f_law_spoilt)))
    (l_law_spoilt : K.lookup f_law_spoilt = some ⟨oc_law_spoilt, od_law_spoilt, .func (PySem.W.fnOf "_law_spoilt" "_law_spoilt" (defArgs s_law_spoilt) (defBody s_law_spoilt) (defScope s_law_spoilt) .none kV_law_spoilt dc_law_spoilt pm_law_spoilt an_law_spoilt cd_law_spoilt ct_law_spoilt), sl_law_spoilt⟩)
    (c_law_spoilt : PySem.W.codeIn K cd_law_spoilt "_law_spoilt" = true) (k_law_spoilt : PySem.W.keepIn K (.ref f_law_spoilt) = true)
    {od_law_fixed an_law_fixed : Option Addr} {sl_law_fixed : Array (Option Value)} {f_law_fixed : Addr} {oc_law_fixed kV_law_fixed dc_law_fixed pm_law_fixed cd_law_fixed ct_law_fixed : Value}
    (a_law_fixed : PySem.W.nsIn K mainGlobals "_law_fixed" = some (some (.ref f_law_fixed)))
    (l_law_fixed : K.lookup f_law_fixed = some ⟨oc_law_fixed, od_law_fixed, .func (PySem.W.fnOf "_law_fixed" "_law_fixed" (defArgs s_law_fixed) (defBody s_law_fixed) (defScope s_law_fixed) .none kV_law_fixed dc_law_fixed pm_law_fixed an_law_fixed cd_law_fixed ct_law_fixed), sl_law_fixed⟩)
    (c_law_fixed : PySem.W.codeIn K cd_law_fixed "_law_fixed" = true) (k_law_fixed : PySem.W.keepIn K (.ref f_law_fixed) = true)
    {od_law an_law : Option Addr} {sl_law : Array (Option Value)} {f_law : Addr} {oc_law kV_law dc_law pm_law cd_law ct_law : Value}
    (a_law : PySem.W.nsIn K mainGlobals "law" = some (some (.ref f_law)))
    (l_law : K.lookup f_law = some ⟨oc_law, od_law, .func (PySem.W.fnOf "law" "law" (defArgs s_law) (defBody s_law) (defScope s_law) .none kV_law dc_law pm_law an_law cd_law ct_law), sl_law⟩)
    (c_law : PySem.W.codeIn K cd_law "law" = true) (k_law : PySem.W.keepIn K (.ref f_law) = true)
    (z_isinstance : PySem.W.nsIn K mainGlobals "isinstance" = some none)
    (z_len : PySem.W.nsIn K mainGlobals "len" = some none)
    (z_range : PySem.W.nsIn K mainGlobals "range" = some none)
    (z_int : PySem.W.nsIn K mainGlobals "int" = some none)
    (z_bool : PySem.W.nsIn K mainGlobals "bool" = some none)
    (z_str : PySem.W.nsIn K mainGlobals "str" = some none)
    (z_tuple : PySem.W.nsIn K mainGlobals "tuple" = some none)
    (z_list : PySem.W.nsIn K mainGlobals "list" = some none)
    (z_set : PySem.W.nsIn K mainGlobals "set" = some none)
    (z_dict : PySem.W.nsIn K mainGlobals "dict" = some none)
    (z_abs : PySem.W.nsIn K mainGlobals "abs" = some none)
    (z_all : PySem.W.nsIn K mainGlobals "all" = some none)
    (z_any : PySem.W.nsIn K mainGlobals "any" = some none)
    (z_max : PySem.W.nsIn K mainGlobals "max" = some none)
    (z_min : PySem.W.nsIn K mainGlobals "min" = some none)
    (z_sum : PySem.W.nsIn K mainGlobals "sum" = some none)
    (z_sorted : PySem.W.nsIn K mainGlobals "sorted" = some none)
    (z_zip : PySem.W.nsIn K mainGlobals "zip" = some none)
    (z_divmod : PySem.W.nsIn K mainGlobals "divmod" = some none)
    (z_repr : PySem.W.nsIn K mainGlobals "repr" = some none)
    (z_reversed : PySem.W.nsIn K mainGlobals "reversed" = some none)
    (z_ValueError : PySem.W.nsIn K mainGlobals "ValueError" = some none)
    {tk_FIGURES : Tok} (v_FIGURES : PySem.W.nsIn K mainGlobals "FIGURES" = some (some (.str "0123456789" tk_FIGURES)))
    {E_FourPointsError : Addr} (xg_FourPointsError : PySem.W.nsIn K mainGlobals "FourPointsError" = some (some (.ref E_FourPointsError))) (xe_FourPointsError : PySem.W.excIn K E_FourPointsError bmV "ValueError.__new__" = true) (xk_FourPointsError : PySem.W.keepIn K (.ref E_FourPointsError) = true) (xb_FourPointsError : PySem.W.subIn K (.ref E_FourPointsError) (.type "BaseException") = some true) (xt_FourPointsError : PySem.W.typeIn K (.ref E_FourPointsError) = some (.type "type"))
    {E_NoText : Addr} (xg_NoText : PySem.W.nsIn K mainGlobals "NoText" = some (some (.ref E_NoText))) (xe_NoText : PySem.W.excIn K E_NoText bmV "ValueError.__new__" = true) (xk_NoText : PySem.W.keepIn K (.ref E_NoText) = true) (xb_NoText : PySem.W.subIn K (.ref E_NoText) (.type "BaseException") = some true) (xt_NoText : PySem.W.typeIn K (.ref E_NoText) = some (.type "type"))
    {E_NoColumn : Addr} (xg_NoColumn : PySem.W.nsIn K mainGlobals "NoColumn" = some (some (.ref E_NoColumn))) (xe_NoColumn : PySem.W.excIn K E_NoColumn bmV "ValueError.__new__" = true) (xk_NoColumn : PySem.W.keepIn K (.ref E_NoColumn) = true) (xb_NoColumn : PySem.W.subIn K (.ref E_NoColumn) (.type "BaseException") = some true) (xt_NoColumn : PySem.W.typeIn K (.ref E_NoColumn) = some (.type "type"))
    {E_NotHalf : Addr} (xg_NotHalf : PySem.W.nsIn K mainGlobals "NotHalf" = some (some (.ref E_NotHalf))) (xe_NotHalf : PySem.W.excIn K E_NotHalf bmV "ValueError.__new__" = true) (xk_NotHalf : PySem.W.keepIn K (.ref E_NotHalf) = true) (xb_NotHalf : PySem.W.subIn K (.ref E_NotHalf) (.type "BaseException") = some true) (xt_NotHalf : PySem.W.typeIn K (.ref E_NotHalf) = some (.type "type"))
    {E_OutOfTimes : Addr} (xg_OutOfTimes : PySem.W.nsIn K mainGlobals "OutOfTimes" = some (some (.ref E_OutOfTimes))) (xe_OutOfTimes : PySem.W.excIn K E_OutOfTimes bmV "ValueError.__new__" = true) (xk_OutOfTimes : PySem.W.keepIn K (.ref E_OutOfTimes) = true) (xb_OutOfTimes : PySem.W.subIn K (.ref E_OutOfTimes) (.type "BaseException") = some true) (xt_OutOfTimes : PySem.W.typeIn K (.ref E_OutOfTimes) = some (.type "type"))
    {E_NoSample : Addr} (xg_NoSample : PySem.W.nsIn K mainGlobals "NoSample" = some (some (.ref E_NoSample))) (xe_NoSample : PySem.W.excIn K E_NoSample bmV "ValueError.__new__" = true) (xk_NoSample : PySem.W.keepIn K (.ref E_NoSample) = true) (xb_NoSample : PySem.W.subIn K (.ref E_NoSample) (.type "BaseException") = some true) (xt_NoSample : PySem.W.typeIn K (.ref E_NoSample) = some (.type "type"))
    {E_NoWatch : Addr} (xg_NoWatch : PySem.W.nsIn K mainGlobals "NoWatch" = some (some (.ref E_NoWatch))) (xe_NoWatch : PySem.W.excIn K E_NoWatch bmV "ValueError.__new__" = true) (xk_NoWatch : PySem.W.keepIn K (.ref E_NoWatch) = true) (xb_NoWatch : PySem.W.subIn K (.ref E_NoWatch) (.type "BaseException") = some true) (xt_NoWatch : PySem.W.typeIn K (.ref E_NoWatch) = some (.type "type"))
    {E_NoName : Addr} (xg_NoName : PySem.W.nsIn K mainGlobals "NoName" = some (some (.ref E_NoName))) (xe_NoName : PySem.W.excIn K E_NoName bmV "ValueError.__new__" = true) (xk_NoName : PySem.W.keepIn K (.ref E_NoName) = true) (xb_NoName : PySem.W.subIn K (.ref E_NoName) (.type "BaseException") = some true) (xt_NoName : PySem.W.typeIn K (.ref E_NoName) = some (.type "type"))
    {E_NotApart : Addr} (xg_NotApart : PySem.W.nsIn K mainGlobals "NotApart" = some (some (.ref E_NotApart))) (xe_NotApart : PySem.W.excIn K E_NotApart bmV "ValueError.__new__" = true) (xk_NotApart : PySem.W.keepIn K (.ref E_NotApart) = true) (xb_NotApart : PySem.W.subIn K (.ref E_NotApart) (.type "BaseException") = some true) (xt_NotApart : PySem.W.typeIn K (.ref E_NotApart) = some (.type "type"))
    (xhn : PySem.W.specialIn K (.builtin "object.__class__") "__get__" = some (some (.builtin "getset_descriptor.__get__"))) (xht : PySem.W.takesIn K (.builtin "object.__class__") = some true)
    (xd_FourPointsError : PySem.W.hasDictIn K E_FourPointsError = true)
    (xd_NoColumn : PySem.W.hasDictIn K E_NoColumn = true)
    (xd_NotHalf : PySem.W.hasDictIn K E_NotHalf = true)
    (xd_OutOfTimes : PySem.W.hasDictIn K E_OutOfTimes = true)
    (xd_NoSample : PySem.W.hasDictIn K E_NoSample = true)
    (xd_NoWatch : PySem.W.hasDictIn K E_NoWatch = true)
    (xd_NoName : PySem.W.hasDictIn K E_NoName = true)
    (xd_NotApart : PySem.W.hasDictIn K E_NotApart = true)
    (xd_NoText : PySem.W.hasDictIn K E_NoText = true)
    (xp_NoText : PySem.W.findIn K (.ref E_NoText) "__getattribute__" = some (some (.builtin "BaseException.__getattribute__"))) (xq_NoText : PySem.W.findIn K (.ref E_NoText) "__getattr__" = some none) (xc_NoText : PySem.W.findIn K (.ref E_NoText) "__class__" = some (some (.builtin "object.__class__"))) (xm_NoText : PySem.W.mroIn K E_NoText (.type "object") = some true)
    (xv_NoText : PySem.W.subIn K (.ref E_NoText) (.type "ValueError") = some true)
    (xs_NoText_NoText : PySem.W.subIn K (.ref E_NoText) (.ref E_NoText) = some true)
    (xs_NoText_FourPointsError : PySem.W.subIn K (.ref E_NoText) (.ref E_FourPointsError) = some true)
    (xs_NoText_NoColumn : PySem.W.subIn K (.ref E_NoText) (.ref E_NoColumn) = some false)
    (xs_NoText_NotHalf : PySem.W.subIn K (.ref E_NoText) (.ref E_NotHalf) = some false)
    (xs_NoText_OutOfTimes : PySem.W.subIn K (.ref E_NoText) (.ref E_OutOfTimes) = some false)
    (xs_NoText_NoSample : PySem.W.subIn K (.ref E_NoText) (.ref E_NoSample) = some false)
    (xs_NoText_NoWatch : PySem.W.subIn K (.ref E_NoText) (.ref E_NoWatch) = some false)
    (xs_NoText_NoName : PySem.W.subIn K (.ref E_NoText) (.ref E_NoName) = some false)
    (xs_NoText_NotApart : PySem.W.subIn K (.ref E_NoText) (.ref E_NotApart) = some false)
    : ∃ fd : FuncData, (∀ (s : Shared) (v : Value), BindsTo s fd ⟨[v], []⟩ [("_law_script", v)]) ∧ ∀ base : Heap, K.In base → base.Ns mainGlobals mg → FnOk l.prog w K mg base (L2.CX l.prog w) 7 fa fd ["_law_script"] (sp_law K) := by
  have e := hfa.symm.trans (PySem.W.mg_of X G a_law)
  cases e
  have B : Blt mg := ⟨PySem.W.mg_none_of X G z_isinstance, PySem.W.mg_none_of X G z_len, PySem.W.mg_none_of X G z_range, PySem.W.mg_none_of X G z_int, PySem.W.mg_none_of X G z_bool, PySem.W.mg_none_of X G z_str, PySem.W.mg_none_of X G z_tuple, PySem.W.mg_none_of X G z_list, PySem.W.mg_none_of X G z_set, PySem.W.mg_none_of X G z_dict, PySem.W.mg_none_of X G z_abs, PySem.W.mg_none_of X G z_all, PySem.W.mg_none_of X G z_any, PySem.W.mg_none_of X G z_max, PySem.W.mg_none_of X G z_min, PySem.W.mg_none_of X G z_sum, PySem.W.mg_none_of X G z_sorted, PySem.W.mg_none_of X G z_zip, PySem.W.mg_none_of X G z_divmod, PySem.W.mg_none_of X G z_repr, PySem.W.mg_none_of X G z_reversed, PySem.W.mg_none_of X G z_ValueError⟩
  have F_is_whole := fun_mk (st := s_is_whole) l_is_whole c_is_whole k_is_whole
  have D_is_whole : Def K mg "is_whole" s_is_whole ["thing"] := def_mk F_is_whole (PySem.W.mg_of X G a_is_whole) (F_is_whole.binds (ps := ["thing"]) fun _ _ _ _ _ _ us hl => match us, hl with | [_], _ => rfl)
  have F_is_sample := fun_mk (st := s_is_sample) l_is_sample c_is_sample k_is_sample
  have D_is_sample : Def K mg "is_sample" s_is_sample ["thing"] := def_mk F_is_sample (PySem.W.mg_of X G a_is_sample) (F_is_sample.binds (ps := ["thing"]) fun _ _ _ _ _ _ us hl => match us, hl with | [_], _ => rfl)
  have F_is_curve := fun_mk (st := s_is_curve) l_is_curve c_is_curve k_is_curve
  have D_is_curve : Def K mg "is_curve" s_is_curve ["thing"] := def_mk F_is_curve (PySem.W.mg_of X G a_is_curve) (F_is_curve.binds (ps := ["thing"]) fun _ _ _ _ _ _ us hl => match us, hl with | [_], _ => rfl)
  have F_curve_text := fun_mk (st := s_curve_text) l_curve_text c_curve_text k_curve_text
  have D_curve_text : Def K mg "curve_text" s_curve_text ["curve"] := def_mk F_curve_text (PySem.W.mg_of X G a_curve_text) (F_curve_text.binds (ps := ["curve"]) fun _ _ _ _ _ _ us hl => match us, hl with | [_], _ => rfl)
  have F_is_figures := fun_mk (st := s_is_figures) l_is_figures c_is_figures k_is_figures
  have D_is_figures : Def K mg "is_figures" s_is_figures ["text"] := def_mk F_is_figures (PySem.W.mg_of X G a_is_figures) (F_is_figures.binds (ps := ["text"]) fun _ _ _ _ _ _ us hl => match us, hl with | [_], _ => rfl)
  have F_read_number := fun_mk (st := s_read_number) l_read_number c_read_number k_read_number
  have D_read_number : Def K mg "read_number" s_read_number ["word"] := def_mk F_read_number (PySem.W.mg_of X G a_read_number) (F_read_number.binds (ps := ["word"]) fun _ _ _ _ _ _ us hl => match us, hl with | [_], _ => rfl)
  have F_read_sample := fun_mk (st := s_read_sample) l_read_sample c_read_sample k_read_sample
  have D_read_sample : Def K mg "read_sample" s_read_sample ["line"] := def_mk F_read_sample (PySem.W.mg_of X G a_read_sample) (F_read_sample.binds (ps := ["line"]) fun _ _ _ _ _ _ us hl => match us, hl with | [_], _ => rfl)
  have F_read_curve := fun_mk (st := s_read_curve) l_read_curve c_read_curve k_read_curve
  have D_read_curve : Def K mg "read_curve" s_read_curve ["text"] := def_mk F_read_curve (PySem.W.mg_of X G a_read_curve) (F_read_curve.binds (ps := ["text"]) fun _ _ _ _ _ _ us hl => match us, hl with | [_], _ => rfl)
  have F_law_cell := fun_mk (st := s_law_cell) l_law_cell c_law_cell k_law_cell
  have D_law_cell : Def K mg "_law_cell" s_law_cell ["_law_script", "_law_k"] := def_mk F_law_cell (PySem.W.mg_of X G a_law_cell) (F_law_cell.binds (ps := ["_law_script", "_law_k"]) fun _ _ _ _ _ _ us hl => match us, hl with | [_, _], _ => rfl)
  have F_law_pot := fun_mk (st := s_law_pot) l_law_pot c_law_pot k_law_pot
  have D_law_pot : Def K mg "_law_pot" s_law_pot ["_law_cell_here"] := def_mk F_law_pot (PySem.W.mg_of X G a_law_pot) (F_law_pot.binds (ps := ["_law_cell_here"]) fun _ _ _ _ _ _ us hl => match us, hl with | [_], _ => rfl)
  have F_law_take := fun_mk (st := s_law_take) l_law_take c_law_take k_law_take
  have D_law_take : Def K mg "_law_take" s_law_take ["_law_pot_here", "_law_many"] := def_mk F_law_take (PySem.W.mg_of X G a_law_take) (F_law_take.binds (ps := ["_law_pot_here", "_law_many"]) fun _ _ _ _ _ _ us hl => match us, hl with | [_, _], _ => rfl)
  have F_law_number := fun_mk (st := s_law_number) l_law_number c_law_number k_law_number
  have D_law_number : Def K mg "_law_number" s_law_number ["_law_pot_here"] := def_mk F_law_number (PySem.W.mg_of X G a_law_number) (F_law_number.binds (ps := ["_law_pot_here"]) fun _ _ _ _ _ _ us hl => match us, hl with | [_], _ => rfl)
  have F_law_samples := fun_mk (st := s_law_samples) l_law_samples c_law_samples k_law_samples
  have D_law_samples : Def K mg "_law_samples" s_law_samples ["_law_script"] := def_mk F_law_samples (PySem.W.mg_of X G a_law_samples) (F_law_samples.binds (ps := ["_law_script"]) fun _ _ _ _ _ _ us hl => match us, hl with | [_], _ => rfl)
  have F_law_curve := fun_mk (st := s_law_curve) l_law_curve c_law_curve k_law_curve
  have D_law_curve : Def K mg "_law_curve" s_law_curve ["_law_samples_here"] := def_mk F_law_curve (PySem.W.mg_of X G a_law_curve) (F_law_curve.binds (ps := ["_law_samples_here"]) fun _ _ _ _ _ _ us hl => match us, hl with | [_], _ => rfl)
  have F_law_whole_of := fun_mk (st := s_law_whole_of) l_law_whole_of c_law_whole_of k_law_whole_of
  have D_law_whole_of : Def K mg "_law_whole_of" s_law_whole_of ["_law_word"] := def_mk F_law_whole_of (PySem.W.mg_of X G a_law_whole_of) (F_law_whole_of.binds (ps := ["_law_word"]) fun _ _ _ _ _ _ us hl => match us, hl with | [_], _ => rfl)
  have F_law_curve_of := fun_mk (st := s_law_curve_of) l_law_curve_of c_law_curve_of k_law_curve_of
  have D_law_curve_of : Def K mg "_law_curve_of" s_law_curve_of ["_law_text"] := def_mk F_law_curve_of (PySem.W.mg_of X G a_law_curve_of) (F_law_curve_of.binds (ps := ["_law_text"]) fun _ _ _ _ _ _ us hl => match us, hl with | [_], _ => rfl)
  have F_law_read := fun_mk (st := s_law_read) l_law_read c_law_read k_law_read
  have D_law_read : Def K mg "_law_read" s_law_read ["_law_thing"] := def_mk F_law_read (PySem.W.mg_of X G a_law_read) (F_law_read.binds (ps := ["_law_thing"]) fun _ _ _ _ _ _ us hl => match us, hl with | [_], _ => rfl)
  have F_law_right := fun_mk (st := s_law_right) l_law_right c_law_right k_law_right
  have D_law_right : Def K mg "_law_right" s_law_right ["_law_text"] := def_mk F_law_right (PySem.W.mg_of X G a_law_right) (F_law_right.binds (ps := ["_law_text"]) fun _ _ _ _ _ _ us hl => match us, hl with | [_], _ => rfl)
  have F_law_spoilt := fun_mk (st := s_law_spoilt) l_law_spoilt c_law_spoilt k_law_spoilt
  have D_law_spoilt : Def K mg "_law_spoilt" s_law_spoilt ["_law_pot_here", "_law_text"] := def_mk F_law_spoilt (PySem.W.mg_of X G a_law_spoilt) (F_law_spoilt.binds (ps := ["_law_pot_here", "_law_text"]) fun _ _ _ _ _ _ us hl => match us, hl with | [_, _], _ => rfl)
  have F_law_fixed := fun_mk (st := s_law_fixed) l_law_fixed c_law_fixed k_law_fixed
  have D_law_fixed : Def K mg "_law_fixed" s_law_fixed [] := def_mk F_law_fixed (PySem.W.mg_of X G a_law_fixed) (F_law_fixed.binds (ps := []) fun _ _ _ _ _ _ us hl => match us, hl with | [], _ => rfl)
  have F_law := fun_mk (st := s_law) l_law c_law k_law
  have D_law : Def K mg "law" s_law ["_law_script"] := def_mk F_law (PySem.W.mg_of X G a_law) (F_law.binds (ps := ["_law_script"]) fun _ _ _ _ _ _ us hl => match us, hl with | [_], _ => rfl)
  have C_FIGURES := PySem.W.mg_of X G v_FIGURES
  have X_FourPointsError : Exc K mg "FourPointsError" E_FourPointsError := ⟨PySem.W.mg_of X G xg_FourPointsError, xe_FourPointsError, xk_FourPointsError, xb_FourPointsError, xt_FourPointsError⟩
  have X_NoText : Exc K mg "NoText" E_NoText := ⟨PySem.W.mg_of X G xg_NoText, xe_NoText, xk_NoText, xb_NoText, xt_NoText⟩
  have X_NoColumn : Exc K mg "NoColumn" E_NoColumn := ⟨PySem.W.mg_of X G xg_NoColumn, xe_NoColumn, xk_NoColumn, xb_NoColumn, xt_NoColumn⟩
  have X_NotHalf : Exc K mg "NotHalf" E_NotHalf := ⟨PySem.W.mg_of X G xg_NotHalf, xe_NotHalf, xk_NotHalf, xb_NotHalf, xt_NotHalf⟩
  have X_OutOfTimes : Exc K mg "OutOfTimes" E_OutOfTimes := ⟨PySem.W.mg_of X G xg_OutOfTimes, xe_OutOfTimes, xk_OutOfTimes, xb_OutOfTimes, xt_OutOfTimes⟩
  have X_NoSample : Exc K mg "NoSample" E_NoSample := ⟨PySem.W.mg_of X G xg_NoSample, xe_NoSample, xk_NoSample, xb_NoSample, xt_NoSample⟩
  have X_NoWatch : Exc K mg "NoWatch" E_NoWatch := ⟨PySem.W.mg_of X G xg_NoWatch, xe_NoWatch, xk_NoWatch, xb_NoWatch, xt_NoWatch⟩
  have X_NoName : Exc K mg "NoName" E_NoName := ⟨PySem.W.mg_of X G xg_NoName, xe_NoName, xk_NoName, xb_NoName, xt_NoName⟩
  have X_NotApart : Exc K mg "NotApart" E_NotApart := ⟨PySem.W.mg_of X G xg_NotApart, xe_NotApart, xk_NotApart, xb_NotApart, xt_NotApart⟩
  have Y_NoText : ExcC K E_NoText := ⟨xp_NoText, xq_NoText, xb_NoText, xd_NoText, xc_NoText, xhn, xht, xm_NoText⟩
  have V_NoText : PySem.W.kitOne K (.ref E_NoText) (.type "ValueError") = some true := kit_bt (by decide +kernel) xv_NoText
  have W_NoText_NoText : PySem.W.kitOne K (.ref E_NoText) (.ref E_NoText) = some true := kit_true xd_NoText xt_NoText xs_NoText_NoText
  have Z_NoText_NoText : PySem.W.exmOne K (.ref E_NoText) (.ref E_NoText) = some true := PySem.W.exm_ref xb_NoText xd_NoText xt_NoText xs_NoText_NoText
  have W_NoText_FourPointsError : PySem.W.kitOne K (.ref E_NoText) (.ref E_FourPointsError) = some true := kit_true xd_FourPointsError xt_FourPointsError xs_NoText_FourPointsError
  have Z_NoText_FourPointsError : PySem.W.exmOne K (.ref E_NoText) (.ref E_FourPointsError) = some true := PySem.W.exm_ref xb_FourPointsError xd_FourPointsError xt_FourPointsError xs_NoText_FourPointsError
  have W_NoText_NoColumn : PySem.W.kitOne K (.ref E_NoText) (.ref E_NoColumn) = some false := kit_false xd_NoColumn xt_NoColumn xs_NoText_NoText xs_NoText_NoColumn
  have Z_NoText_NoColumn : PySem.W.exmOne K (.ref E_NoText) (.ref E_NoColumn) = some false := PySem.W.exm_ref xb_NoColumn xd_NoColumn xt_NoColumn xs_NoText_NoColumn
  have W_NoText_NotHalf : PySem.W.kitOne K (.ref E_NoText) (.ref E_NotHalf) = some false := kit_false xd_NotHalf xt_NotHalf xs_NoText_NoText xs_NoText_NotHalf
  have Z_NoText_NotHalf : PySem.W.exmOne K (.ref E_NoText) (.ref E_NotHalf) = some false := PySem.W.exm_ref xb_NotHalf xd_NotHalf xt_NotHalf xs_NoText_NotHalf
  have W_NoText_OutOfTimes : PySem.W.kitOne K (.ref E_NoText) (.ref E_OutOfTimes) = some false := kit_false xd_OutOfTimes xt_OutOfTimes xs_NoText_NoText xs_NoText_OutOfTimes
  have Z_NoText_OutOfTimes : PySem.W.exmOne K (.ref E_NoText) (.ref E_OutOfTimes) = some false := PySem.W.exm_ref xb_OutOfTimes xd_OutOfTimes xt_OutOfTimes xs_NoText_OutOfTimes
  have W_NoText_NoSample : PySem.W.kitOne K (.ref E_NoText) (.ref E_NoSample) = some false := kit_false xd_NoSample xt_NoSample xs_NoText_NoText xs_NoText_NoSample
  have Z_NoText_NoSample : PySem.W.exmOne K (.ref E_NoText) (.ref E_NoSample) = some false := PySem.W.exm_ref xb_NoSample xd_NoSample xt_NoSample xs_NoText_NoSample
  have W_NoText_NoWatch : PySem.W.kitOne K (.ref E_NoText) (.ref E_NoWatch) = some false := kit_false xd_NoWatch xt_NoWatch xs_NoText_NoText xs_NoText_NoWatch
  have Z_NoText_NoWatch : PySem.W.exmOne K (.ref E_NoText) (.ref E_NoWatch) = some false := PySem.W.exm_ref xb_NoWatch xd_NoWatch xt_NoWatch xs_NoText_NoWatch
  have W_NoText_NoName : PySem.W.kitOne K (.ref E_NoText) (.ref E_NoName) = some false := kit_false xd_NoName xt_NoName xs_NoText_NoText xs_NoText_NoName
  have Z_NoText_NoName : PySem.W.exmOne K (.ref E_NoText) (.ref E_NoName) = some false := PySem.W.exm_ref xb_NoName xd_NoName xt_NoName xs_NoText_NoName
  have W_NoText_NotApart : PySem.W.kitOne K (.ref E_NoText) (.ref E_NotApart) = some false := kit_false xd_NotApart xt_NotApart xs_NoText_NoText xs_NoText_NotApart
  have Z_NoText_NotApart : PySem.W.exmOne K (.ref E_NoText) (.ref E_NotApart) = some false := PySem.W.exm_ref xb_NotApart xd_NotApart xt_NotApart xs_NoText_NotApart
  refine ⟨PySem.W.fnOf "law" "law" (defArgs s_law) (defBody s_law) (defScope s_law) .none kV_law dc_law pm_law an_law cd_law ct_law, fun s v => .of_eq rfl, fun base _ _ => ?_⟩
  have G_law_cell := fun base => ok_law_cell (P := l.prog) (w := w) (base := base) B D_law_cell
  have G_law_pot := fun base => ok_law_pot (P := l.prog) (w := w) (base := base) B D_law_pot
  have G_law_take := fun base => ok_law_take (P := l.prog) (w := w) (base := base) B D_law_take
  have G_law_number := fun base => ok_law_number (P := l.prog) (w := w) (base := base) B D_law_number (G_law_take base)
  have G_law_samples := fun base => ok_law_samples (P := l.prog) (w := w) (base := base) B D_law_samples (G_law_pot base) (G_law_cell base) (G_law_number base)
  have G_law_curve := fun base => ok_law_curve (P := l.prog) (w := w) (base := base) B D_law_curve
  have G_is_whole := fun base => ok_is_whole (P := l.prog) (w := w) (base := base) B D_is_whole
  have G_is_sample := fun base => ok_is_sample (P := l.prog) (w := w) (base := base) B D_is_sample (G_is_whole base)
  have G_curve_text := fun base => ok_curve_text (P := l.prog) (w := w) (base := base) B D_curve_text
  have G_is_figures := fun base => ok_is_figures (P := l.prog) (w := w) (base := base) B D_is_figures C_FIGURES
  have G_read_number := fun base => ok_read_number (P := l.prog) (w := w) (base := base) B D_read_number X_NoText (G_is_figures base)
  have G_read_sample := fun base => ok_read_sample (P := l.prog) (w := w) (base := base) B D_read_sample X_NoText (G_read_number base)
  have G_is_curve := fun base => ok_is_curve (P := l.prog) (w := w) (base := base) B D_is_curve (G_is_sample base)
  have G_read_curve := fun base => ok_read_curve (P := l.prog) (w := w) (base := base) B D_read_curve X_NoText (G_is_curve base) (G_read_sample base)
  have G_law_whole_of := fun base => ok_law_whole_of (P := l.prog) (w := w) (base := base) B D_law_whole_of
  have G_law_curve_of := fun base => ok_law_curve_of (P := l.prog) (w := w) (base := base) B D_law_curve_of (G_law_whole_of base)
  have G_law_read := fun base => ok_law_read (P := l.prog) (w := w) (base := base) B D_law_read X_FourPointsError X_NoColumn X_NotHalf X_OutOfTimes X_NoSample X_NoWatch X_NoName X_NotApart X_NoText Y_NoText W_NoText_FourPointsError Z_NoText_FourPointsError W_NoText_NoColumn Z_NoText_NoColumn W_NoText_NotHalf Z_NoText_NotHalf W_NoText_OutOfTimes Z_NoText_OutOfTimes W_NoText_NoSample Z_NoText_NoSample W_NoText_NoWatch Z_NoText_NoWatch W_NoText_NoName Z_NoText_NoName W_NoText_NotApart Z_NoText_NotApart W_NoText_NoText Z_NoText_NoText V_NoText (G_read_curve base)
  have G_law_right := fun base => ok_law_right (P := l.prog) (w := w) (base := base) B D_law_right (G_law_curve_of base) (G_law_read base)
  have G_law_spoilt := fun base => ok_law_spoilt (P := l.prog) (w := w) (base := base) B D_law_spoilt (G_law_take base)
  have G_law_fixed := fun base => ok_law_fixed (P := l.prog) (w := w) (base := base) B D_law_fixed
  exact ok_law B F_law (G_law_curve base) (G_curve_text base) (G_law_samples base) (G_law_pot base) (G_law_spoilt base) (G_law_right base) (G_law_take base) (G_law_read base) (G_law_cell base) (G_law_fixed base)

open PySem.W in
theorem walk {l : PySem.W.OpenLaw} {q : Program} {loose : List Str} {XP : (Str → Option Value) → Heap → Prop} {YP : World → Heap → Prop} {d : DefRec} {K : Params → PySem.W.Frag} (hn : l.most = some 63) (hdf : d.params.defaults = [])
    (hY : ∀ (w : World) (h : Heap), YP w h → (K w.params).In h)
    (F : ∀ (w : World) (mg : Str → Option Value) (fa : Addr) (h : Heap), (K w.params).In h → h.Ns mainGlobals mg → mg d.name = some (.ref fa) →
      ∃ fd : FuncData, (∀ (s : Shared) (u : Value), BindsTo s fd ⟨[u], []⟩ [("_law_script", u)]) ∧ ∀ base : Heap, (K w.params).In base → base.Ns mainGlobals mg → FnOk l.prog w (K w.params) mg base (L2.CX l.prog w) 7 fa fd ["_law_script"] (sp_law (K w.params))) :
    PySem.W.WalkO q loose XP YP l.row.toRowW d [] (fun f vs => PySem.call f vs) :=
  L2.walk_ofB (n := 63) (k := 7) (x := "_law_script") (CX := fun w => L2.CX l.prog w) (sp := fun w => sp_law (K w.params)) hn (by decide) hdf ⟨rfl, by decide, by decide⟩ hY F (fun _ H a ns hl hb hO hS => sp_law_top hl hb hO hS)
    fun _ _ _ _ _ z => cx_none z
end Lk15
open PySem PySem.W PyProof.Rows
set_option maxRecDepth 100000 in
set_option maxHeartbeats 0 in
theorem PySem.Challenge.cw_fourpoints_k15_whole_texts_refused_holds : PySem.Challenge.rw_fourpoints_k15_whole_texts_refused.Holds := by
  w_on; o_law; k_head; (case hw => w_witness2)
  k_fill
  refine Lk15.walk (l := PySem.Challenge.rw_fourpoints_k15_whole_texts_refused) rfl rfl (fun w h Y => PySem.W.kIn_of Y) ?F
  case F =>
    intro w mg fa h KX G hmg
    refine' Lk15.all_mk KX G hmg ?a_is_whole ?l_is_whole ?c_is_whole ?k_is_whole ?a_is_sample ?l_is_sample ?c_is_sample ?k_is_sample ?a_is_curve ?l_is_curve ?c_is_curve ?k_is_curve ?a_curve_text ?l_curve_text ?c_curve_text ?k_curve_text ?a_is_figures ?l_is_figures ?c_is_figures ?k_is_figures ?a_read_number ?l_read_number ?c_read_number ?k_read_number ?a_read_sample ?l_read_sample ?c_read_sample ?k_read_sample ?a_read_curve ?l_read_curve ?c_read_curve ?k_read_curve ?a_law_cell ?l_law_cell ?c_law_cell ?k_law_cell ?a_law_pot ?l_law_pot ?c_law_pot ?k_law_pot ?a_law_take ?l_law_take ?c_law_take ?k_law_take ?a_law_number ?l_law_number ?c_law_number ?k_law_number ?a_law_samples ?l_law_samples ?c_law_samples ?k_law_samples ?a_law_curve ?l_law_curve ?c_law_curve ?k_law_curve ?a_law_whole_of ?l_law_whole_of ?c_law_whole_of ?k_law_whole_of ?a_law_curve_of ?l_law_curve_of ?c_law_curve_of ?k_law_curve_of ?a_law_read ?l_law_read ?c_law_read ?k_law_read ?a_law_right ?l_law_right ?c_law_right ?k_law_right ?a_law_spoilt ?l_law_spoilt ?c_law_spoilt ?k_law_spoilt ?a_law_fixed ?l_law_fixed ?c_law_fixed ?k_law_fixed ?a_law ?l_law ?c_law ?k_law ?z_isinstance ?z_len ?z_range ?z_int ?z_bool ?z_str ?z_tuple ?z_list ?z_set ?z_dict ?z_abs ?z_all ?z_any ?z_max ?z_min ?z_sum ?z_sorted ?z_zip ?z_divmod ?z_repr ?z_reversed ?z_ValueError ?v_FIGURES ?xg_FourPointsError ?xe_FourPointsError ?xk_FourPointsError ?xb_FourPointsError ?xt_FourPointsError ?xg_NoText ?xe_NoText ?xk_NoText ?xb_NoText ?xt_NoText ?xg_NoColumn ?xe_NoColumn ?xk_NoColumn ?xb_NoColumn ?xt_NoColumn ?xg_NotHalf ?xe_NotHalf ?xk_NotHalf ?xb_NotHalf ?xt_NotHalf ?xg_OutOfTimes ?xe_OutOfTimes ?xk_OutOfTimes ?xb_OutOfTimes ?xt_OutOfTimes ?xg_NoSample ?xe_NoSample ?xk_NoSample ?xb_NoSample ?xt_NoSample ?xg_NoWatch ?xe_NoWatch ?xk_NoWatch ?xb_NoWatch ?xt_NoWatch ?xg_NoName ?xe_NoName ?xk_NoName ?xb_NoName ?xt_NoName ?xg_NotApart ?xe_NotApart ?xk_NotApart ?xb_NotApart ?xt_NotApart ?xhn ?xht ?xd_FourPointsError ?xd_NoColumn ?xd_NotHalf ?xd_OutOfTimes ?xd_NoSample ?xd_NoWatch ?xd_NoName ?xd_NotApart ?xd_NoText ?xp_NoText ?xq_NoText ?xc_NoText ?xm_NoText ?xv_NoText ?xs_NoText_NoText ?xs_NoText_FourPointsError ?xs_NoText_NoColumn ?xs_NoText_NotHalf ?xs_NoText_OutOfTimes ?xs_NoText_NoSample ?xs_NoText_NoWatch ?xs_NoText_NoName ?xs_NoText_NotApart
    (case a_is_whole => k_is)
    (case l_is_whole => k_is)
    (case c_is_whole => k_is)
    (case k_is_whole => k_is)
    (case a_is_sample => k_is)
    (case l_is_sample => k_is)
    (case c_is_sample => k_is)
    (case k_is_sample => k_is)
    (case a_is_curve => k_is)
    (case l_is_curve => k_is)
    (case c_is_curve => k_is)
    (case k_is_curve => k_is)
    (case a_curve_text => k_is)
    (case l_curve_text => k_is)
    (case c_curve_text => k_is)
    (case k_curve_text => k_is)
    (case a_is_figures => k_is)
    (case l_is_figures => k_is)
    (case c_is_figures => k_is)
    (case k_is_figures => k_is)
    (case a_read_number => k_is)
    (case l_read_number => k_is)
    (case c_read_number => k_is)
    (case k_read_number => k_is)
    (case a_read_sample => k_is)
    (case l_read_sample => k_is)
    (case c_read_sample => k_is)
    (case k_read_sample => k_is)
    (case a_read_curve => k_is)
    (case l_read_curve => k_is)
    (case c_read_curve => k_is)
    (case k_read_curve => k_is)
    (case a_law_cell => k_is)
    (case l_law_cell => k_is)
    (case c_law_cell => k_is)
    (case k_law_cell => k_is)
    (case a_law_pot => k_is)
    (case l_law_pot => k_is)
    (case c_law_pot => k_is)
    (case k_law_pot => k_is)
    (case a_law_take => k_is)
    (case l_law_take => k_is)
    (case c_law_take => k_is)
    (case k_law_take => k_is)
    (case a_law_number => k_is)
    (case l_law_number => k_is)
    (case c_law_number => k_is)
    (case k_law_number => k_is)
    (case a_law_samples => k_is)
    (case l_law_samples => k_is)
    (case c_law_samples => k_is)
    (case k_law_samples => k_is)
    (case a_law_curve => k_is)
    (case l_law_curve => k_is)
    (case c_law_curve => k_is)
    (case k_law_curve => k_is)
    (case a_law_whole_of => k_is)
    (case l_law_whole_of => k_is)
    (case c_law_whole_of => k_is)
    (case k_law_whole_of => k_is)
    (case a_law_curve_of => k_is)
    (case l_law_curve_of => k_is)
    (case c_law_curve_of => k_is)
    (case k_law_curve_of => k_is)
    (case a_law_read => k_is)
    (case l_law_read => k_is)
    (case c_law_read => k_is)
    (case k_law_read => k_is)
    (case a_law_right => k_is)
    (case l_law_right => k_is)
    (case c_law_right => k_is)
    (case k_law_right => k_is)
    (case a_law_spoilt => k_is)
    (case l_law_spoilt => k_is)
    (case c_law_spoilt => k_is)
    (case k_law_spoilt => k_is)
    (case a_law_fixed => k_is)
    (case l_law_fixed => k_is)
    (case c_law_fixed => k_is)
    (case k_law_fixed => k_is)
    (case a_law => k_is)
    (case l_law => k_is)
    (case c_law => k_is)
    (case k_law => k_is)
    (case z_isinstance => k_is)
    (case z_len => k_is)
    (case z_range => k_is)
    (case z_int => k_is)
    (case z_bool => k_is)
    (case z_str => k_is)
    (case z_tuple => k_is)
    (case z_list => k_is)
    (case z_set => k_is)
    (case z_dict => k_is)
    (case z_abs => k_is)
    (case z_all => k_is)
    (case z_any => k_is)
    (case z_max => k_is)
    (case z_min => k_is)
    (case z_sum => k_is)
    (case z_sorted => k_is)
    (case z_zip => k_is)
    (case z_divmod => k_is)
    (case z_repr => k_is)
    (case z_reversed => k_is)
    (case z_ValueError => k_is)
    (case v_FIGURES => k_is)
    (case xg_FourPointsError => k_is)
    (case xe_FourPointsError => k_exc)
    (case xk_FourPointsError => k_is)
    (case xb_FourPointsError => k_is)
    (case xt_FourPointsError => k_is)
    (case xg_NoText => k_is)
    (case xe_NoText => k_exc)
    (case xk_NoText => k_is)
    (case xb_NoText => k_is)
    (case xt_NoText => k_is)
    (case xg_NoColumn => k_is)
    (case xe_NoColumn => k_exc)
    (case xk_NoColumn => k_is)
    (case xb_NoColumn => k_is)
    (case xt_NoColumn => k_is)
    (case xg_NotHalf => k_is)
    (case xe_NotHalf => k_exc)
    (case xk_NotHalf => k_is)
    (case xb_NotHalf => k_is)
    (case xt_NotHalf => k_is)
    (case xg_OutOfTimes => k_is)
    (case xe_OutOfTimes => k_exc)
    (case xk_OutOfTimes => k_is)
    (case xb_OutOfTimes => k_is)
    (case xt_OutOfTimes => k_is)
    (case xg_NoSample => k_is)
    (case xe_NoSample => k_exc)
    (case xk_NoSample => k_is)
    (case xb_NoSample => k_is)
    (case xt_NoSample => k_is)
    (case xg_NoWatch => k_is)
    (case xe_NoWatch => k_exc)
    (case xk_NoWatch => k_is)
    (case xb_NoWatch => k_is)
    (case xt_NoWatch => k_is)
    (case xg_NoName => k_is)
    (case xe_NoName => k_exc)
    (case xk_NoName => k_is)
    (case xb_NoName => k_is)
    (case xt_NoName => k_is)
    (case xg_NotApart => k_is)
    (case xe_NotApart => k_exc)
    (case xk_NotApart => k_is)
    (case xb_NotApart => k_is)
    (case xt_NotApart => k_is)
    (case xhn => k_is)
    (case xht => k_is)
    (case xd_FourPointsError => k_is)
    (case xd_NoColumn => k_is)
    (case xd_NotHalf => k_is)
    (case xd_OutOfTimes => k_is)
    (case xd_NoSample => k_is)
    (case xd_NoWatch => k_is)
    (case xd_NoName => k_is)
    (case xd_NotApart => k_is)
    (case xd_NoText => k_is)
    (case xp_NoText => k_is)
    (case xq_NoText => k_is)
    (case xc_NoText => k_is)
    (case xm_NoText => k_is)
    (case xv_NoText => k_is)
    (case xs_NoText_NoText => k_is)
    (case xs_NoText_FourPointsError => k_is)
    (case xs_NoText_NoColumn => k_is)
    (case xs_NoText_NotHalf => k_is)
    (case xs_NoText_OutOfTimes => k_is)
    (case xs_NoText_NoSample => k_is)
    (case xs_NoText_NoWatch => k_is)
    (case xs_NoText_NoName => k_is)
    (case xs_NoText_NotApart => k_is)
